import PyProof.Rows.All
import Wide.All
import OpenK.AllK
import Wide.FinOn
import HandS.ForMost
import PySem.Challenge.RW_livecopy_k07_what_is_a_version
import HandS.Wide
import HandS.Style
import HandS.IsInst
import HandS.TupAny
import PyProof.ReprRoads
import PyProof.ReprLen
import PyProof.FitsInt
import HandS.Defaults
import HandS.MakeKwOnly
import HandS.WideBits
import HandS.SortInts
import HandS.More
import HandS.DictComp
import HandS.Conv
set_option Elab.async false
set_option linter.all false
set_option maxRecDepth 100000
section
/-! DeepCore: a small language (expressions ME, statements MS) and its evaluator over a plain store. Core Lean only. -/
namespace Mini
abbrev Txt := List Nat
/-- values: scalars, tuples by value, a place of the store; lst stands in trees only -/
inductive MV where
  | non | bl (b : Bool) | int (i : Int) | str (s : Txt) | tup (l : List MV) | loc (n : Nat) | lst (l : List MV)
  deriving Inhabited
/-- a cell: a list that may change, one that is only read -/
inductive Cell where
  | lst (l : List MV) | ro (l : List MV) | ins (c : Nat) (fs : List (Nat × MV)) | dct (kvs : List (Int × MV)) | rdc (kvs : List (Int × MV))
abbrev Store := List Cell
abbrev Env := List (Option MV)
structure Exc where
  cls : Nat
  fs : List MV
inductive Out (α : Type) where
  | ok (a : α) (st : Store) | exc (x : Exc) (st : Store) | bad
def Out.bind {α β : Type} : Out α → (α → Store → Out β) → Out β
  | .ok a st, f => f a st
  | .exc x st, _ => .exc x st
  | .bad, _ => .bad
/-- so that simp does not take an equation as one that the kernel is to see by itself -/
theorem nr {p : Prop} (h : p) : p := h
@[simp] theorem Out.bind_ok {α β : Type} (a : α) (st : Store) (f : α → Store → Out β) : (Out.ok a st).bind f = f a st := nr rfl
@[simp] theorem Out.bind_exc {α β : Type} (x : Exc) (st : Store) (f : α → Store → Out β) : (Out.exc x st).bind f = .exc x st := nr rfl
@[simp] theorem Out.bind_bad {α β : Type} (f : α → Store → Out β) : (Out.bad).bind f = .bad := nr rfl

inductive Op2 where
  | add | sub | mul | fdiv | mod | pow | eq | ne | lt | le | gt | ge | ix | isN | notN | band | bor | shl | shr | inn | notIn
inductive Prim where
  | neg | notV | len | abs | int | max2 | min2 | list | isInt | isBool | isList | isTuple | isStr | repr | min1 | inv | tuple | sorted
inductive Mth where
  | append | pop | insert | bitLen
/-- a target: a name's slot, or a tuple of them -/
inductive MG where
  | nm (i : Nat) | tp (l : List Nat)

inductive ME where
  | var (i : Nat)
  | con (v : MV)
  | op2 (o : Op2) (a b : ME)
  | and (a b : ME)
  | or (a b : ME)
  | nt (a : ME)
  | chain (o p : Op2) (a b c : ME)
  | ite (c a b : ME)
  | tup (l : List ME)
  | lst (l : List ME)
  | call (f : Nat) (l : List ME)
  | prim (p : Prim) (l : List ME)
  | meth (m : Mth) (o : ME) (l : List ME)
  | rev (a : ME)
  | sl (fl fh : Bool) (a lo hi : ME)
  | lcS (g : MG) (it : ME) (cs : List ME) (e : ME)
  | lcR1 (g : MG) (n : ME) (cs : List ME) (e : ME)
  | lcR2 (g : MG) (a b : ME) (cs : List ME) (e : ME)
  | att (c f : Nat) (o : ME)
  | mcl (c f : Nat) (o : ME) (l : List ME)
  | mk (c f : Nat) (l : List ME)
  | dct0
  | cin (neg : Bool) (c f : Nat) (a o : ME)
  | dcS (g : MG) (it k v : ME)
  | tupR (a b : ME)
inductive MI where
  | keys (i : Nat) | seq (e : ME) | rng1 (n : ME) | rng2 (a b : ME) | down (a b : ME) | enm (e : ME)
inductive MS where
  | asg (g : MG) (e : ME)
  | setIx (o i e : ME)
  | setAt (c f : Nat) (o e : ME)
  | aug (o : Op2) (i : Nat) (e : ME)
  | expr (e : ME)
  | ret (e : ME)
  | retN
  | pass
  | brk
  | cont
  | ite (c : ME) (a b : List MS)
  | loop (g : MG) (it : MI) (body : List MS) (ks : List Nat)
  | whl (c : ME) (body : List MS) (ks : List Nat)
  | never
  | kill (ks : List Nat)
  | lock (i : Nat) (s : MS)
inductive Ctl where
  | next (env : Env) | ret (v : MV) | brk (env : Env) | cont (env : Env)

def sizeMax : Nat := 16000000
def getL (st : Store) (n : Nat) : Option (List MV) :=
  match st[n]? with
  | some (.lst l) => some l
  | some (.ro l) => some l
  | _ => none
/-- the instance at a place -/
def getI (st : Store) (n c : Nat) : Option (List (Nat × MV)) :=
  match st[n]? with
  | some (.ins c2 fs) => if c2 = c then some fs else none
  | _ => none
def getD (st : Store) (n : Nat) : Option (List (Int × MV)) :=
  match st[n]? with
  | some (.dct kvs) => some kvs
  | some (.rdc kvs) => some kvs
  | _ => none
/-- a dict's entry, in its place or behind all others -/
def putD (k : Int) (v : MV) (kvs : List (Int × MV)) : List (Int × MV) :=
  if (kvs.any fun p => decide (p.1 = k)) = true then kvs.map (fun p => if p.1 = k then (p.1, v) else p) else kvs ++ [(k, v)]
def valD (kvs : List (Int × MV)) (k : Int) : Option MV := (kvs.find? fun p => decide (p.1 = k)).map (·.2)
/-- a field is stored: in its place, or behind all others -/
def putI (f : Nat) (v : MV) : List (Nat × MV) → List (Nat × MV)
  | [] => [(f, v)]
  | (g, x) :: r => if g = f then (g, v) :: r else (g, x) :: putI f v r
def attV (st : Store) (c f : Nat) : MV → Out MV
  | .loc n => match (getI st n c).bind fun fs => fs.lookup f with
    | some v => .ok v st
    | none => .bad
  | _ => .bad
def setAttV (c f : Nat) (o v : MV) (st : Store) : Out Unit :=
  match o with
  | .loc n => match getI st n c with
    | some fs => if fs.length < 100 then .ok () (st.set n (.ins c (putI f v fs))) else .bad
    | none => .bad
  | _ => .bad
def newL (l : List MV) (st : Store) : Out MV :=
  if l.length ≤ sizeMax then .ok (.loc st.length) (st ++ [.lst l]) else .bad
def ixN (n : Nat) (i : Int) : Option Nat := if 0 ≤ i then (if i < n then some i.toNat else none) else if -(n : Int) ≤ i then some (i + n).toNat else none
def atI (l : List MV) (i : Int) : Option MV := (ixN l.length i).bind fun j => l[j]?
def mapO {α β : Type} (f : α → Option β) : List α → Option (List β)
  | [] => some []
  | x :: xs => (f x).bind fun y => (mapO f xs).map fun ys => y :: ys
/-- the tree of a value: what its places hold -/
def toD : Nat → Store → MV → Option MV
  | _, _, .non => some .non
  | _, _, .bl b => some (.bl b)
  | _, _, .int i => some (.int i)
  | n + 1, st, .tup l => (mapO (toD n st) l).map .tup
  | n + 1, st, .loc k => (getL st k).bind fun l => (mapO (toD n st) l).map .lst
  | _, _, _ => none
mutual
def eqvD : MV → MV → Bool
  | .non, .non => true
  | .bl a, .bl b => a == b
  | .bl a, .int j => (if a then 1 else 0) == j
  | .int i, .bl b => i == (if b then 1 else 0)
  | .int i, .int j => i == j
  | .lst a, .lst b => eqvL a b
  | .tup a, .tup b => eqvL a b
  | _, _ => false
def eqvL : List MV → List MV → Bool
  | [], [] => true
  | x :: xs, y :: ys => eqvD x y && eqvL xs ys
  | _, _ => false
end
def eqS : MV → MV → Option Bool
  | .non, .non => some true
  | .int i, .int j => some (decide (i = j))
  | .bl i, .bl j => some (decide (i = j))
  | .str i, .str j => some (decide (i = j))
  | .non, .int _ => some false
  | .non, .bl _ => some false
  | .non, .str _ => some false
  | .int _, .non => some false
  | .bl _, .non => some false
  | .str _, .non => some false
  | .int _, .str _ => some false
  | .bl _, .str _ => some false
  | .str _, .int _ => some false
  | .str _, .bl _ => some false
  | _, _ => none
def opEq (st : Store) (x y : MV) : Option Bool :=
  match eqS x y with
  | some b => some b
  | none => (toD 8 st x).bind fun d => (toD 8 st y).map fun e => eqvD d e
def cmpI (p : Int → Int → Bool) (st : Store) : MV → MV → Out MV
  | .int i, .int j => .ok (.bl (p i j)) st
  | _, _ => .bad
def opAdd (st : Store) : MV → MV → Out MV
  | .int i, .int j => .ok (.int (i + j)) st
  | .loc n, .loc m => match st[n]?, st[m]? with
    | some (.lst a), some (.lst b) => newL (a ++ b) st
    | _, _ => .bad
  | .tup a, .tup b => if a.length + b.length ≤ 1000 then .ok (.tup (a ++ b)) st else .bad
  | _, _ => .bad
def repV (l : List MV) : Nat → List MV
  | 0 => []
  | n + 1 => l ++ repV l n
def opMul (st : Store) : MV → MV → Out MV
  | .int i, .int j => if i.natAbs.log2 + j.natAbs.log2 < 1000000 then .ok (.int (i * j)) st else .bad
  | .loc n, .int j => match st[n]? with
    | some (.lst a) => if -100000 ≤ j ∧ j ≤ 100000 ∧ a.length ≤ 100 then newL (repV a j.toNat) st else .bad
    | _ => .bad
  | _, _ => .bad
def opIx (st : Store) : MV → MV → Out MV
  | .loc n, .int i => match getL st n with
    | some l => match atI l i with
      | some v => .ok v st
      | none => .bad
    | none => match (getD st n).bind fun kvs => valD kvs i with
      | some v => .ok v st
      | none => .bad
  | .tup l, .int i => match atI l i with
    | some v => .ok v st
    | none => .bad
  | _, _ => .bad
/-- a mask and another one, or what another one lacks -/
def band (i j : Int) : Int := if 0 ≤ j then ((i.toNat &&& j.toNat : Nat) : Int) else i - ((i.toNat &&& (-j - 1).toNat : Nat) : Int)
def bor (i j : Int) : Int := ((i.toNat ||| j.toNat : Nat) : Int)
def allInts : List MV → Option (List Int)
  | [] => some []
  | .int i :: r => (allInts r).map fun l => i :: l
  | _ => none
def opIn (st : Store) (x y : MV) : Option Bool :=
  match x, y with
  | .int i, .loc n => match getD st n with
    | some kvs => some (decide (i ∈ kvs.map (·.1)))
    | none => ((getL st n).bind allInts).map fun l => decide (i ∈ l)
  | .int i, .tup l => (allInts l).map fun l => decide (i ∈ l)
  | _, _ => none
def op2 (o : Op2) (x y : MV) (st : Store) : Out MV :=
  match o with
  | .add => opAdd st x y
  | .sub => match x, y with
    | .int i, .int j => .ok (.int (i - j)) st
    | _, _ => .bad
  | .mul => opMul st x y
  | .fdiv => match x, y with
    | .int i, .int j => if 0 < j ∧ j.natAbs.log2 < 9000 then .ok (.int (i / j)) st else .bad
    | _, _ => .bad
  | .mod => match x, y with
    | .int i, .int j => if 0 < j then .ok (.int (i % j)) st else .bad
    | _, _ => .bad
  | .pow => match x, y with
    | .int i, .int j => if 0 ≤ j ∧ j ≤ 1000000 ∧ i.natAbs < 2 ^ 64 then .ok (.int (i ^ j.toNat)) st else .bad
    | _, _ => .bad
  | .eq => match opEq st x y with
    | some b => .ok (.bl b) st
    | none => .bad
  | .ne => match opEq st x y with
    | some b => .ok (.bl (!b)) st
    | none => .bad
  | .lt => cmpI (fun i j => decide (i < j)) st x y
  | .le => cmpI (fun i j => decide (i ≤ j)) st x y
  | .gt => cmpI (fun i j => decide (j < i)) st x y
  | .ge => cmpI (fun i j => decide (j ≤ i)) st x y
  | .ix => opIx st x y
  | .band => match x, y with
    | .int i, .int j => if 0 ≤ i then .ok (.int (band i j)) st else .bad
    | _, _ => .bad
  | .bor => match x, y with
    | .int i, .int j => if 0 ≤ i ∧ 0 ≤ j then .ok (.int (bor i j)) st else .bad
    | _, _ => .bad
  | .shl => match x, y with
    | .int i, .int j => if 0 ≤ j ∧ j ≤ 1000000 ∧ i.natAbs < 2 ^ 64 then .ok (.int (i * 2 ^ j.toNat)) st else .bad
    | _, _ => .bad
  | .shr => match x, y with
    | .int i, .int j => if 0 ≤ j then .ok (.int (i / 2 ^ j.toNat)) st else .bad
    | _, _ => .bad
  | .inn => match opIn st x y with
    | some b => .ok (.bl b) st
    | none => .bad
  | .notIn => match opIn st x y with
    | some b => .ok (.bl (!b)) st
    | none => .bad
  | .isN => match x, y with
    | .non, .non => .ok (.bl true) st
    | _, .non => .ok (.bl false) st
    | _, _ => .bad
  | .notN => match x, y with
    | .non, .non => .ok (.bl false) st
    | _, .non => .ok (.bl true) st
    | _, _ => .bad
def truth (st : Store) : MV → Out Bool
  | .non => .ok false st
  | .bl b => .ok b st
  | .int i => .ok (i != 0) st
  | .str s => if s.length ≤ 16000000 then .ok (!s.isEmpty) st else .bad
  | .tup l => .ok (!l.isEmpty) st
  | .loc n => match getL st n with
    | some l => .ok (!l.isEmpty) st
    | none => .bad
  | .lst _ => .bad
/-- what the evaluator is given: calls of the program's defs; the text of repr; turns of a while -/
structure Cx where
  call : Nat → List MV → Store → Out MV
  repr : MV → Txt
  wf : Nat
def okInt : MV → Bool
  | .int i => decide (i.natAbs < 10 ^ 60)
  | .bl _ => true
  | _ => false
def minL : Int → List Int → Int
  | m, [] => m
  | m, j :: r => minL (if j < m then j else m) r
/-- a number into an ascending list -/
def insI (i : Int) : List Int → List Int
  | [] => [i]
  | j :: r => if i ≤ j then i :: j :: r else j :: insI i r
def sortI : List Int → List Int
  | [] => []
  | i :: r => insI i (sortI r)
def prim (C : Cx) (p : Prim) (vs : List MV) (st : Store) : Out MV :=
  match p, vs with
  | .neg, [.int i] => .ok (.int (-i)) st
  | .notV, [.bl b] => .ok (.bl (!b)) st
  | .len, [.loc n] => match getL st n with
    | some l => .ok (.int l.length) st
    | none => match getD st n with
      | some kvs => .ok (.int kvs.length) st
      | none => .bad
  | .len, [.tup l] => .ok (.int l.length) st
  | .abs, [.int i] => .ok (.int (if i < 0 then -i else i)) st
  | .int, [.int i] => .ok (.int i) st
  | .int, [.bl b] => .ok (.int (if b then 1 else 0)) st
  | .max2, [.int i, .int j] => .ok (.int (if j > i then j else i)) st
  | .min2, [.int i, .int j] => .ok (.int (if j < i then j else i)) st
  | .list, [.loc n] => match getL st n with
    | some l => newL l st
    | none => .bad
  | .list, [.tup l] => newL l st
  | .isInt, [v] => match v with
    | .int _ => .ok (.bl true) st
    | .bl _ => .ok (.bl true) st
    | .lst _ => .bad
    | .loc n => match getL st n with
      | some _ => .ok (.bl false) st
      | none => .bad
    | _ => .ok (.bl false) st
  | .isBool, [v] => match v with
    | .bl _ => .ok (.bl true) st
    | .lst _ => .bad
    | .loc n => match getL st n with
      | some _ => .ok (.bl false) st
      | none => .bad
    | _ => .ok (.bl false) st
  | .isStr, [v] => match v with
    | .str _ => .ok (.bl true) st
    | .lst _ => .bad
    | .loc n => match getL st n with
      | some _ => .ok (.bl false) st
      | none => .bad
    | _ => .ok (.bl false) st
  | .isTuple, [v] => match v with
    | .tup _ => .ok (.bl true) st
    | .lst _ => .bad
    | .loc n => match getL st n with
      | some _ => .ok (.bl false) st
      | none => .bad
    | _ => .ok (.bl false) st
  | .isList, [v] => match v with
    | .lst _ => .bad
    | .loc n => match getL st n with
      | some _ => .ok (.bl true) st
      | none => .bad
    | _ => .ok (.bl false) st
  | .repr, [.loc n] => match getL st n with
    | some l => if l.all okInt = true ∧ l.length ≤ 1000 then .ok (.str (C.repr (.lst l))) st else .bad
    | none => .bad
  | .min1, [.loc n] => match (getL st n).bind allInts with
    | some (x :: l) => .ok (.int (minL x l)) st
    | _ => .bad
  | .inv, [.int i] => .ok (.int (-i - 1)) st
  | .tuple, [.loc n] => match getL st n with
    | some l => if l.length ≤ 1000 then .ok (.tup l) st else .bad
    | none => .bad
  | .tuple, [.tup l] => .ok (.tup l) st
  | .sorted, [.loc n] => match (getL st n).bind allInts with
    | some l => if l.length < 64 then newL ((sortI l).map .int) st else .bad
    | none => match getD st n with
      | some kvs => if kvs.length < 64 then newL ((sortI (kvs.map (·.1))).map .int) st else .bad
      | none => .bad
  | _, _ => .bad
def appendTo (n : Nat) (y : MV) (st : Store) : Out MV :=
  match st[n]? with
  | some (.lst l) => if l.length < sizeMax then .ok .non (st.set n (.lst (l ++ [y]))) else .bad
  | _ => .bad
/-- may the method be asked of this? -/
def recv (m : Mth) (o : MV) (st : Store) : Bool :=
  match m, o with
  | .bitLen, .int _ => true
  | .append, .loc n => (getL st n).isSome
  | .pop, .loc n => (getL st n).isSome
  | .insert, .loc n => (getL st n).isSome
  | _, _ => false
def meth (m : Mth) (o : MV) (vs : List MV) (st : Store) : Out MV :=
  match m, o, vs with
  | .append, .loc n, [y] => appendTo n y st
  | .pop, .loc n, [.int i] => match st[n]? with
    | some (.lst l) => if 0 ≤ i ∧ i < l.length ∧ l.length ≤ sizeMax then match l[i.toNat]? with
        | some v => .ok v (st.set n (.lst (l.eraseIdx i.toNat)))
        | none => .bad
      else .bad
    | _ => .bad
  | .insert, .loc n, [.int i, y] => match st[n]? with
    | some (.lst l) => if 0 ≤ i ∧ i ≤ l.length ∧ l.length < sizeMax then .ok .non (st.set n (.lst (l.take i.toNat ++ y :: l.drop i.toNat))) else .bad
    | _ => .bad
  | .bitLen, .int i, [] => if 0 ≤ i then .ok (.int (if i = 0 then 0 else (i.toNat.log2 : Int) + 1)) st else .bad
  | _, _, _ => .bad
def setAt (o i v : MV) (st : Store) : Out Unit :=
  match o, i with
  | .loc n, .int k => match st[n]? with
    | some (.lst l) => match ixN l.length k with
      | some j => .ok () (st.set n (.lst (l.set j v)))
      | none => .bad
    | some (.dct kvs) => if kvs.length < sizeMax then .ok () (st.set n (.dct (putD k v kvs))) else .bad
    | _ => .bad
  | _, _ => .bad
def sIx (n d : Nat) : MV → Option Nat
  | .non => some d
  | .int v => some (if v < 0 then (v + (n : Int)).toNat else min v.toNat n)
  | _ => none
def cut (l : List MV) (a b : Nat) : List MV := (l.drop a).take (b - a)
def bOk : Bool → MV → Bool
  | true, .int _ => true
  | false, .non => true
  | _, _ => false
def slice (fl fh : Bool) (x lo hi : MV) (st : Store) : Out MV :=
  if bOk fl lo && bOk fh hi then match x with
  | .loc n => match getL st n with
    | some l => match sIx l.length 0 lo, sIx l.length l.length hi with
      | some a, some b => .ok (.loc st.length) (st ++ [.lst (cut l a b)])
      | _, _ => .bad
    | none => .bad
  | .tup l => match sIx l.length 0 lo, sIx l.length l.length hi with
    | some a, some b => if a = 0 ∧ b = l.length then .bad else .ok (.tup (cut l a b)) st
    | _, _ => .bad
  | _ => .bad
  else .bad
def setG : MG → MV → Env → Option Env
  | .nm i, v, env => some (env.set i (some v))
  | .tp is, .tup l, env => if is.length = l.length then some ((is.zip l).foldl (fun e p => e.set p.1 (some p.2)) env) else none
  | _, _, _ => none
def killAll (ks : List Nat) (env : Env) : Env := ks.foldl (fun e k => e.set k none) env
inductive Iter where
  | lst (n : Nat) | itm (l : List MV) | rng (lo c : Int) (n : Nat) | enm (n : Nat) | dct (n : Nat)
def Iter.get : Iter → Store → Nat → Option MV
  | .lst n, st, i => (getL st n).bind (·[i]?)
  | .itm l, _, i => l[i]?
  | .rng lo c n, _, i => if i < n then some (.int (lo + (i : Int) * c)) else none
  | .enm n, st, i => ((getL st n).bind (·[i]?)).map fun x => .tup [.int i, x]
  | .dct n, st, i => ((getD st n).bind (·[i]?)).map fun p => .int p.1
def Iter.stop : Iter → Store → Nat → Bool
  | .lst n, st, i => match getL st n with
    | some l => decide (l.length ≤ i)
    | none => false
  | .itm l, _, i => decide (l.length ≤ i)
  | .rng _ _ n, _, i => decide (n ≤ i)
  | .enm n, st, i => match getL st n with
    | some l => decide (l.length ≤ i)
    | none => false
  | .dct n, st, i => match getD st n with
    | some l => decide (l.length ≤ i)
    | none => false
def Iter.cnt : Iter → Store → Nat
  | .lst n, st => match getL st n with
    | some l => l.length
    | none => 0
  | .itm l, _ => l.length
  | .rng _ _ n, _ => n
  | .enm n, st => match getL st n with
    | some l => l.length
    | none => 0
  | .dct n, st => match getD st n with
    | some l => l.length
    | none => 0
/-- a list comprehension's turns; D: the new list's place -/
def lcLoop (J : Iter) (D : Nat) (turn : MV → Store → Out (Option MV)) : Nat → Nat → Store → Out MV
  | 0, i, st => if J.stop st i then .ok (.loc D) st else .bad
  | n + 1, i, st => match J.get st i with
    | none => .bad
    | some x => (turn x st).bind fun r s => match r with
      | none => lcLoop J D turn n (i + 1) s
      | some y => (appendTo D y s).bind fun _ s2 => lcLoop J D turn n (i + 1) s2
def lcRun (J : Iter) (turn : MV → Store → Out (Option MV)) (st : Store) : Out MV :=
  lcLoop J st.length turn (J.cnt st) 0 (st ++ [.lst []])
def putTo (D : Nat) (k v : MV) (s : Store) : Out Unit :=
  match k, s[D]? with
  | .int k, some (.dct kvs) => if kvs.length < sizeMax then .ok () (s.set D (.dct (putD k v kvs))) else .bad
  | _, _ => .bad
/-- a dict comprehension's turns -/
def dcLoop (J : Iter) (D : Nat) (turn : MV → Store → Out (MV × MV)) : Nat → Nat → Store → Out MV
  | 0, i, st => if J.stop st i then .ok (.loc D) st else .bad
  | n + 1, i, st => match J.get st i with
    | none => .bad
    | some x => (turn x st).bind fun r s => (putTo D r.1 r.2 s).bind fun _ s2 => dcLoop J D turn n (i + 1) s2
def dcRun (J : Iter) (turn : MV → Store → Out (MV × MV)) (st : Store) : Out MV :=
  dcLoop J st.length turn (J.cnt st) 0 (st ++ [.dct []])
/-- range(a, b) as values -/
def rgL (a b : Int) : List MV := (List.range (b - a).toNat).map fun (i : Nat) => .int (a + i)
def mkTupR (x y : MV) (st : Store) : Out MV :=
  match x, y with
  | .int i, .int j => if -1000000 ≤ i ∧ i ≤ 1000000 ∧ -1000000 ≤ j ∧ j ≤ 1000000 then .ok (.tup (rgL i j)) st else .bad
  | _, _ => .bad
def forLoop (J : Iter) (turn : MV → Env → Store → Out Ctl) : Nat → Nat → Env → Store → Out Ctl
  | 0, i, env, st => if J.stop st i then .ok (.next env) st else .bad
  | n + 1, i, env, st => match J.get st i with
    | none => .bad
    | some x => (turn x env st).bind fun c s => match c with
      | .next e => forLoop J turn n (i + 1) e s
      | .cont e => forLoop J turn n (i + 1) e s
      | .brk e => .ok (.next e) s
      | .ret v => .ok (.ret v) s
def whlLoop (test : Env → Store → Out Bool) (turn : Env → Store → Out Ctl) : Nat → Env → Store → Out Ctl
  | 0, _, _ => .bad
  | n + 1, env, st => (test env st).bind fun b s => if b then (turn env s).bind fun c s2 => match c with
      | .next e => whlLoop test turn n e s2
      | .cont e => whlLoop test turn n e s2
      | .brk e => .ok (.next e) s2
      | .ret v => .ok (.ret v) s2
    else .ok (.next env) s
def mkSeq (x : MV) (st : Store) : Out Iter :=
  match x with
  | .loc n => match getL st n with
    | some _ => .ok (.lst n) st
    | none => .bad
  | .tup l => .ok (.itm l) st
  | _ => .bad
def rngOk (i : Int) : Bool := decide (-(2 ^ 62) ≤ i) && decide (i < 2 ^ 62)
def mkR1 (x : MV) (st : Store) : Out Iter :=
  match x with
  | .int j => if rngOk j then .ok (.rng 0 1 j.toNat) st else .bad
  | _ => .bad
def mkR2 (x y : MV) (st : Store) : Out Iter :=
  match x, y with
  | .int i, .int j => if rngOk i && rngOk j then .ok (.rng i 1 (j - i).toNat) st else .bad
  | _, _ => .bad
def mkDn (x y : MV) (st : Store) : Out Iter :=
  match x, y with
  | .int i, .int j => if rngOk i && rngOk j then .ok (.rng i (-1) (i - j).toNat) st else .bad
  | _, _ => .bad
def mkEn (x : MV) (st : Store) : Out Iter :=
  match x with
  | .loc n => match getL st n with
    | some _ => .ok (.enm n) st
    | none => .bad
  | _ => .bad
def asB (v : MV) (st : Store) : Out Bool :=
  match v with
  | .bl b => .ok b st
  | _ => .bad
mutual
def evE (C : Cx) : ME → Env → Store → Out MV
  | .var i, env, st => match env[i]? with
    | some (some v) => .ok v st
    | _ => .bad
  | .con v, _, st => .ok v st
  | .op2 o a b, env, st => (evE C a env st).bind fun x s1 => (evE C b env s1).bind fun y s2 => op2 o x y s2
  | .and a b, env, st => (evE C a env st).bind fun x s1 => (asB x s1).bind fun c s2 => if c then evE C b env s2 else .ok (.bl false) s2
  | .or a b, env, st => (evE C a env st).bind fun x s1 => (asB x s1).bind fun c s2 => if c then .ok (.bl true) s2 else evE C b env s2
  | .nt a, env, st => (evE C a env st).bind fun x s1 => (truth s1 x).bind fun b s2 => .ok (.bl (!b)) s2
  | .chain o p a b c, env, st => (evE C a env st).bind fun x s1 => (evE C b env s1).bind fun y s2 => (op2 o x y s2).bind fun z s3 => (asB z s3).bind fun k s4 =>
      if k then (evE C c env s4).bind fun w s5 => op2 p y w s5 else .ok (.bl false) s4
  | .ite c a b, env, st => (tst C c env st).bind fun k s1 => if k then evE C a env s1 else evE C b env s1
  | .tup l, env, st => (evEs C l env st).bind fun vs s1 => if vs.length ≤ 1000 then .ok (.tup vs) s1 else .bad
  | .lst l, env, st => (evEs C l env st).bind fun vs s1 => newL vs s1
  | .call f l, env, st => (evEs C l env st).bind fun vs s1 => C.call f vs s1
  | .prim p l, env, st => (evEs C l env st).bind fun vs s1 => prim C p vs s1
  | .meth m o l, env, st => (evE C o env st).bind fun x s1 => if recv m x s1 then (evEs C l env s1).bind fun vs s2 => meth m x vs s2 else .bad
  | .rev a, env, st => (evE C a env st).bind fun x s1 => match x with
      | .loc n => match getL s1 n with
        | some l => .ok (.loc s1.length) (s1 ++ [.lst l.reverse])
        | none => .bad
      | _ => .bad
  | .sl fl fh a lo hi, env, st => (evE C a env st).bind fun x s1 => (evE C lo env s1).bind fun y s2 => (evE C hi env s2).bind fun z s3 => slice fl fh x y z s3
  | .lcS g it cs e, env, st => (evE C it env st).bind fun x s1 => (mkSeq x s1).bind fun J s2 => lcRun J (fun v s => match setG g v env with
      | none => .bad
      | some env2 => (tsts C cs env2 s).bind fun b s3 => if b then (evE C e env2 s3).bind fun y s4 => .ok (some y) s4 else .ok none s3) s2
  | .lcR1 g n cs e, env, st => (evE C n env st).bind fun x s1 => (mkR1 x s1).bind fun J s2 => lcRun J (fun v s => match setG g v env with
      | none => .bad
      | some env2 => (tsts C cs env2 s).bind fun b s3 => if b then (evE C e env2 s3).bind fun y s4 => .ok (some y) s4 else .ok none s3) s2
  | .lcR2 g a b cs e, env, st => (evE C a env st).bind fun x s0 => (evE C b env s0).bind fun y s1 => (mkR2 x y s1).bind fun J s2 => lcRun J (fun v s => match setG g v env with
      | none => .bad
      | some env2 => (tsts C cs env2 s).bind fun b s3 => if b then (evE C e env2 s3).bind fun y s4 => .ok (some y) s4 else .ok none s3) s2
  | .att c f o, env, st => (evE C o env st).bind fun x s1 => attV s1 c f x
  | .mcl c f o l, env, st => (evE C o env st).bind fun x s1 => match x with
      | .loc n => match getI s1 n c with
        | some _ => (evEs C l env s1).bind fun vs s2 => C.call f (x :: vs) s2
        | none => .bad
      | _ => .bad
  | .mk c f l, env, st => (evEs C l env st).bind fun vs s1 => (C.call f (.loc s1.length :: vs) (s1 ++ [.ins c []])).bind fun r s2 => match r with
      | .non => .ok (.loc s1.length) s2
      | _ => .bad
  | .dct0, _, st => .ok (.loc st.length) (st ++ [.dct []])
  | .dcS g it k v, env, st => (evE C it env st).bind fun x s1 => (mkSeq x s1).bind fun J s2 => dcRun J (fun w s => match setG g w env with
      | none => .bad
      | some env2 => (evE C k env2 s).bind fun a s3 => (evE C v env2 s3).bind fun b s4 => .ok (a, b) s4) s2
  | .tupR a b, env, st => (evE C a env st).bind fun x s1 => (evE C b env s1).bind fun y s2 => mkTupR x y s2
  | .cin neg c f a o, env, st => (evE C a env st).bind fun x s1 => (evE C o env s1).bind fun y s2 => match y with
      | .loc n => match getI s2 n c with
        | some _ => (C.call f [y, x] s2).bind fun r s3 => match r with
          | .bl b => .ok (.bl (if neg then !b else b)) s3
          | _ => .bad
        | none => .bad
      | _ => .bad
def evEs (C : Cx) : List ME → Env → Store → Out (List MV)
  | [], _, st => .ok [] st
  | a :: l, env, st => (evE C a env st).bind fun x s1 => (evEs C l env s1).bind fun xs s2 => .ok (x :: xs) s2
/-- as a test -/
def tst (C : Cx) : ME → Env → Store → Out Bool
  | .and a b, env, st => (tst C a env st).bind fun k s1 => if k then tst C b env s1 else .ok false s1
  | .or a b, env, st => (tst C a env st).bind fun k s1 => if k then .ok true s1 else tst C b env s1
  | .nt a, env, st => (tst C a env st).bind fun k s1 => .ok (!k) s1
  | .op2 o a b, env, st => (evE C a env st).bind fun x s1 => (evE C b env s1).bind fun y s2 => (op2 o x y s2).bind fun z s3 => truth s3 z
  | .chain o p a b c, env, st => (evE C a env st).bind fun x s1 => (evE C b env s1).bind fun y s2 => (op2 o x y s2).bind fun z s3 => (asB z s3).bind fun k s4 =>
      if k then (evE C c env s4).bind fun w s5 => (op2 p y w s5).bind fun u s6 => asB u s6 else .ok false s4
  | .var i, env, st => match env[i]? with
    | some (some v) => truth st v
    | _ => .bad
  | .call f l, env, st => (evEs C l env st).bind fun vs s1 => (C.call f vs s1).bind fun z s2 => truth s2 z
  | .prim p l, env, st => (evEs C l env st).bind fun vs s1 => (prim C p vs s1).bind fun z s2 => truth s2 z
  | .att c f o, env, st => (evE C (.att c f o) env st).bind fun z s2 => truth s2 z
  | .mcl c f o l, env, st => (evE C (.mcl c f o l) env st).bind fun z s2 => truth s2 z
  | .cin neg c f a o, env, st => (evE C (.cin neg c f a o) env st).bind fun z s2 => truth s2 z
  | _, _, _ => .bad
def tsts (C : Cx) : List ME → Env → Store → Out Bool
  | [], _, st => .ok true st
  | [c], env, st => tst C c env st
  | _, _, _ => .bad
end
def evI (C : Cx) : MI → Env → Store → Out Iter
  | .keys i, env, st => match env[i]? with
    | some (some (.loc n)) => match st[n]? with
      | some (.rdc _) => .ok (.dct n) st
      | _ => .bad
    | _ => .bad
  | .seq e, env, st => (evE C e env st).bind fun x s1 => mkSeq x s1
  | .rng1 n, env, st => (evE C n env st).bind fun x s1 => mkR1 x s1
  | .rng2 a b, env, st => (evE C a env st).bind fun x s1 => (evE C b env s1).bind fun y s2 => mkR2 x y s2
  | .down a b, env, st => (evE C a env st).bind fun x s1 => (evE C b env s1).bind fun y s2 => mkDn x y s2
  | .enm e, env, st => (evE C e env st).bind fun x s1 => mkEn x s1
/-- name op= e on ints -/
def augI (o : Op2) (x y : MV) (st : Store) : Out MV :=
  match o, x, y with
  | .add, .int i, .int j => .ok (.int (i + j)) st
  | .sub, .int i, .int j => .ok (.int (i - j)) st
  | _, _, _ => .bad
def Ctl.mapEnv (f : Env → Env) : Ctl → Ctl
  | .next e => .next (f e)
  | .cont e => .cont (f e)
  | .brk e => .brk (f e)
  | .ret v => .ret v
mutual
def evS (C : Cx) : MS → Env → Store → Out Ctl
  | .asg g e, env, st => (evE C e env st).bind fun x s1 => match setG g x env with
      | some env2 => .ok (.next env2) s1
      | none => .bad
  | .setIx o i e, env, st => (evE C e env st).bind fun v s1 => (evE C o env s1).bind fun x s2 => (evE C i env s2).bind fun k s3 => (setAt x k v s3).bind fun _ s4 => .ok (.next env) s4
  | .setAt c f o e, env, st => (evE C e env st).bind fun v s1 => (evE C o env s1).bind fun x s2 => (setAttV c f x v s2).bind fun _ s3 => .ok (.next env) s3
  | .aug o i e, env, st => match env[i]? with
      | some (some x) => (evE C e env st).bind fun y s1 => (augI o x y s1).bind fun z s2 => .ok (.next (env.set i (some z))) s2
      | _ => .bad
  | .expr e, env, st => (evE C e env st).bind fun _ s1 => .ok (.next env) s1
  | .ret e, env, st => (evE C e env st).bind fun x s1 => .ok (.ret x) s1
  | .retN, _, st => .ok (.ret .non) st
  | .pass, env, st => .ok (.next env) st
  | .brk, env, st => .ok (.brk env) st
  | .cont, env, st => .ok (.cont env) st
  | .ite c a b, env, st => (tst C c env st).bind fun k s1 => if k then evSs C a env s1 else evSs C b env s1
  | .loop g it body ks, env, st => (evI C it env st).bind fun J s1 => forLoop J (fun x e s => match setG g x e with
      | none => .bad
      | some e2 => (evSs C body e2 s).bind fun c s2 => .ok (c.mapEnv (killAll ks)) s2) (J.cnt s1) 0 (killAll ks env) s1
  | .whl c body ks, env, st => whlLoop (tst C c) (fun e s => (evSs C body e s).bind fun c s2 => .ok (c.mapEnv (killAll ks)) s2) C.wf (killAll ks env) st
  | .never, _, _ => .bad
  | .kill ks, env, st => .ok (.next (killAll ks env)) st
  | .lock i s, env, st => match env[i]? with
    | some (some (.loc n)) => match st[n]? with
      | some (.dct kvs) => (evS C s env (st.set n (.rdc kvs))).bind fun c s2 => match s2[n]? with
        | some (.rdc l) => .ok c (s2.set n (.dct l))
        | _ => .bad
      | _ => .bad
    | _ => .bad
def evSs (C : Cx) : List MS → Env → Store → Out Ctl
  | [], env, st => .ok (.next env) st
  | a :: l, env, st => (evS C a env st).bind fun c s1 => match c with
      | .next e => evSs C l e s1
      | .ret v => .ok (.ret v) s1
      | .brk e => .ok (.brk e) s1
      | .cont e => .ok (.cont e) s1
end
structure MDef where
  np : Nat
  ns : Nat
  body : List MS
/-- what a body hands back -/
def endC : Ctl → Store → Out MV
  | .ret v, s => .ok v s
  | .next _, s => .ok .non s
  | _, _ => .bad
def runBody (C : Cx) (d : MDef) (vs : List MV) (st : Store) : Out MV :=
  if vs.length = d.np then (evSs C d.body (vs.map some ++ List.replicate (d.ns - vs.length) none) st).bind endC else .bad
structure World where
  defs : List MDef
  repr : MV → Txt
  wf : Nat
def callK (W : World) : Nat → Nat → List MV → Store → Out MV
  | 0, _, _, _ => .bad
  | k + 1, f, vs, st => match W.defs[f]? with
    | some d => runBody ⟨callK W k, W.repr, W.wf⟩ d vs st
    | none => .bad
end Mini
end

section
set_option Elab.async false
set_option linter.all false
set_option maxRecDepth 100000
set_option maxHeartbeats 1000000
/-! DeepSound1: how a value, a store, an environment of Mini lie in the abstract heap; operators. -/
namespace DS
open PySem PySem.Spec PyProof.Rows L2
open Mini (MV Cell Store Out)
abbrev Rho := List Addr
/-- the fields' names, the classes' names: places of these lists stand for them -/
def flds : List Str := [("cells" : Str), ("_base" : Str), ("_numbers" : Str), ("_values" : Str), ("_sizes" : Str), ("_needs" : Str), ("_bars" : Str), ("_writers" : Str), ("book" : Str), ("home" : Str), ("pins" : Str), ("latest_pin" : Str), ("home_mask" : Str), ("live_cells" : Str), ("stashes" : Str), ("plan" : Str), ("numbers" : Str), ("look_price" : Str), ("toggle_price" : Str), ("least_cost" : Str), ("bound" : Str), ("levels" : Str), ("cost" : Str), ("below" : Str), ("pinned" : Str), ("many" : Str), ("occurrences" : Str), ("holders" : Str), ("pending" : Str), ("is_closed" : Str), ("entries" : Str), ("decided" : Str), ("base" : Str), ("procedures" : Str), ("tasks" : Str), ("status" : Str), ("printed" : Str), ("bindings" : Str), ("frames" : Str), ("choices" : Str), ("executed" : Str), ("outcomes" : Str), ("requests" : Str), ("homes" : Str), ("run" : Str), ("mover" : Str), ("copy" : Str), ("keeper" : Str), ("lists" : Str), ("one_bound" : Str), ("first_base" : Str), ("live" : Str), ("deeds" : Str), ("blocks" : Str)]
def clss : List Str := [("Book" : Str), ("LiveCopy" : Str), ("Link" : Str), ("Pin" : Str), ("Certificate" : Str), ("EndTable" : Str), ("Keeper" : Str), ("LivingNow" : Str), ("Stream" : Str), ("Program" : Str), ("ProgramReader" : Str), ("Machine" : Str), ("Run" : Str), ("PlainReader" : Str), ("LiveReader" : Str), ("Mover" : Str), ("Follow" : Str), ("Kept" : Str), ("Planned" : Str), ("Toggles" : Str), ("Desk" : Str)]
section
variable (K : PySem.W.Frag)
mutual
inductive RV (H : Hp) (ρ : Rho) : MV → V → Prop
  | non : RV H ρ .non .non
  | bl (b : Bool) : RV H ρ (.bl b) (.bl b)
  | int (i : Int) : RV H ρ (.int i) (.int i)
  | str {l : List Nat} {z : Str} : z.cps.toList = l → RV H ρ (.str l) (.str z)
  | loc {n : Nat} {a : Addr} : ρ[n]? = some a → RV H ρ (.loc n) (.ref a)
  | tup {a : Addr} {xs : List V} {ds : List MV} : SqT K H a xs → RVs H ρ ds xs → RV H ρ (.tup ds) (.ref a)
inductive RVs (H : Hp) (ρ : Rho) : List MV → List V → Prop
  | nil : RVs H ρ [] []
  | cons {d : MV} {ds : List MV} {v : V} {vs : List V} : RV H ρ d v → RVs H ρ ds vs → RVs H ρ (d :: ds) (v :: vs)
end
/-- a list that is only read: the script, or one of the module's own -/
def RoL (H : Hp) (a : Addr) (xs : List V) : Prop := (∃ o, H a = some (.frz o (.lst xs))) ∨
  ∃ (o : Obj) (its : Array Value) (n : Nat), K.lookup a = some o ∧ o.cls = .type "list" ∧ o.dict = none ∧ o.data = .seq its n ∧ its.size ≤ sizeLine ∧ Vals xs its.toList
/-- the class c stands at C -/
def ClsAt (c : Nat) (C : Addr) : Prop := ∃ x, clss[c]? = some x ∧ PySem.W.nsIn K mainGlobals x = some (some (.ref C))
/-- fields -/
inductive RF (H : Hp) (ρ : Rho) : List (Nat × MV) → List (Str × V) → Prop
  | nil : RF H ρ [] []
  | cons {f : Nat} {x : Str} {d : MV} {v : V} {r : List (Nat × MV)} {s : List (Str × V)} : flds[f]? = some x → RV K H ρ d v → RF H ρ r s → RF H ρ ((f, d) :: r) ((x, v) :: s)
/-- what a dict holds -/
inductive RD (H : Hp) (ρ : Rho) : List (Int × MV) → List (Key × V) → Prop
  | nil : RD H ρ [] []
  | cons {i : Int} {d : MV} {v : V} {r : List (Int × MV)} {s : List (Key × V)} : RV K H ρ d v → RD H ρ r s → RD H ρ ((i, d) :: r) ((.inl i, v) :: s)
def RC (H : Hp) (ρ : Rho) (a : Addr) : Cell → Prop
  | .lst l => ∃ xs, H a = some (.lst xs) ∧ RVs K H ρ l xs
  | .ro l => ∃ xs, RoL K H a xs ∧ RVs K H ρ l xs
  | .ins c fs => ∃ C dx xs, H a = some (.ins C dx xs) ∧ ClsAt K c C ∧ RF K H ρ fs xs
  | .dct kvs => ∃ xs, H a = some (.dK xs) ∧ RD K H ρ kvs xs
  | .rdc kvs => ∃ o xs, H a = some (.frz o (.dK xs)) ∧ RD K H ρ kvs xs
/-- a cell that may change -/
def mutC : Cell → Bool
  | .ro _ => false
  | _ => true
structure RS (H : Hp) (ρ : Rho) (st : Store) : Prop where
  len : ρ.length = st.length
  cell : ∀ (n : Nat) (c : Cell) (a : Addr), st[n]? = some c → ρ[n]? = some a → RC K H ρ a c
  inj : ∀ (n m : Nat) (a : Addr) (c c' : Cell), ρ[n]? = some a → ρ[m]? = some a → st[n]? = some c → st[m]? = some c' → mutC c = true → mutC c' = true → n = m
structure ExtW (ρ : Rho) (H : Hp) (ρ' : Rho) (H' : Hp) : Prop where
  pre : ∃ t, ρ' = ρ ++ t
  tup : ∀ a xs, SqT K H a xs → SqT K H' a xs
structure Ext (ρ : Rho) (H : Hp) (ρ' : Rho) (H' : Hp) : Prop where
  pre : ∃ t, ρ' = ρ ++ t
  tup : ∀ a xs, SqT K H a xs → SqT K H' a xs
  frz : ∀ a o u, H a = some (.frz o u) → H' a = some (.frz o u)
def RE (H : Hp) (ρ : Rho) (env : Mini.Env) (σ : L2.St) : Prop := env.length = σ.length ∧ ∀ (i : Nat) (v : MV), env[i]? = some (some v) → ∃ w, σ[i]? = some (some w) ∧ RV K H ρ v w
end
section
variable {K : PySem.W.Frag} {ρ ρ' ρ'' : Rho} {H H' H'' : Hp}
theorem Ext.w (e : Ext K ρ H ρ' H') : ExtW K ρ H ρ' H' := ⟨e.pre, e.tup⟩
theorem Ext.refl : Ext K ρ H ρ H := ⟨⟨[], (List.append_nil _).symm⟩, fun _ _ h => h, fun _ _ _ h => h⟩
theorem Ext.trans (a : Ext K ρ H ρ' H') (b : Ext K ρ' H' ρ'' H'') : Ext K ρ H ρ'' H'' := by
  obtain ⟨⟨t, rfl⟩, ta, fa⟩ := a
  obtain ⟨⟨u, rfl⟩, tb, fb⟩ := b
  exact ⟨⟨t ++ u, List.append_assoc _ _ _⟩, fun a xs h => tb a xs (ta a xs h), fun a o u h => fb a o u (fa a o u h)⟩
theorem ExtW.get (e : ExtW K ρ H ρ' H') {n : Nat} {a : Addr} (h : ρ[n]? = some a) : ρ'[n]? = some a := by
  obtain ⟨⟨t, rfl⟩, _⟩ := e
  have hn : n < ρ.length := (List.getElem?_eq_some_iff.mp h).1
  rw [List.getElem?_append_left hn]
  exact h
theorem Ext.get (e : Ext K ρ H ρ' H') {n : Nat} {a : Addr} (h : ρ[n]? = some a) : ρ'[n]? = some a := e.w.get h
mutual
theorem RV.monoW (e : ExtW K ρ H ρ' H') : ∀ {d : MV} {v : V}, RV K H ρ d v → RV K H' ρ' d v
  | _, _, .non => .non
  | _, _, .bl b => .bl b
  | _, _, .int i => .int i
  | _, _, .str h => .str h
  | _, _, .loc h => .loc (e.get h)
  | _, _, .tup h r => .tup (e.tup _ _ h) (RVs.monoW e r)
theorem RVs.monoW (e : ExtW K ρ H ρ' H') : ∀ {d : List MV} {v : List V}, RVs K H ρ d v → RVs K H' ρ' d v
  | _, _, .nil => .nil
  | _, _, .cons h r => .cons (RV.monoW e h) (RVs.monoW e r)
end
theorem RV.mono (e : Ext K ρ H ρ' H') {d : MV} {v : V} (h : RV K H ρ d v) : RV K H' ρ' d v := h.monoW e.w
theorem RVs.mono (e : Ext K ρ H ρ' H') {d : List MV} {v : List V} (h : RVs K H ρ d v) : RVs K H' ρ' d v := h.monoW e.w
theorem RF.monoW (e : ExtW K ρ H ρ' H') : ∀ {d : List (Nat × MV)} {v : List (Str × V)}, RF K H ρ d v → RF K H' ρ' d v
  | _, _, .nil => .nil
  | _, _, .cons f h r => .cons f (h.monoW e) (RF.monoW e r)
theorem RD.monoW (e : ExtW K ρ H ρ' H') : ∀ {d : List (Int × MV)} {v : List (Key × V)}, RD K H ρ d v → RD K H' ρ' d v
  | _, _, .nil => .nil
  | _, _, .cons h r => .cons (h.monoW e) (RD.monoW e r)
theorem RF.mono (e : Ext K ρ H ρ' H') : ∀ {d : List (Nat × MV)} {v : List (Str × V)}, RF K H ρ d v → RF K H' ρ' d v
  | _, _, .nil => .nil
  | _, _, .cons f h r => .cons f (h.mono e) (RF.mono e r)
theorem RD.mono (e : Ext K ρ H ρ' H') : ∀ {d : List (Int × MV)} {v : List (Key × V)}, RD K H ρ d v → RD K H' ρ' d v
  | _, _, .nil => .nil
  | _, _, .cons h r => .cons (h.mono e) (RD.mono e r)
theorem ClsAt.uniq {c : Nat} {C D : Addr} (h : ClsAt K c C) (g : ClsAt K c D) : C = D := by
  obtain ⟨x, h1, h2⟩ := h
  obtain ⟨y, g1, g2⟩ := g
  rw [h1] at g1
  cases g1
  rw [h2] at g2
  cases g2
  rfl
theorem RE.mono {env : Mini.Env} {σ : L2.St} (e : Ext K ρ H ρ' H') (h : RE K H ρ env σ) : RE K H' ρ' env σ := ⟨h.1, fun i v hv => by
  obtain ⟨w, h1, h2⟩ := h.2 i v hv
  exact ⟨w, h1, h2.mono e⟩⟩
theorem RVs.length : ∀ {d : List MV} {v : List V}, RVs K H ρ d v → d.length = v.length
  | _, _, .nil => rfl
  | _, _, .cons _ r => congrArg Nat.succ (RVs.length r)
theorem RVs.get : ∀ {d : List MV} {v : List V} {i : Nat} {x : MV}, RVs K H ρ d v → d[i]? = some x → ∃ y, v[i]? = some y ∧ RV K H ρ x y
  | _, _, _, _, .nil, h => by simp at h
  | _, _, 0, x, .cons r _, h => by
    simp at h
    subst h
    exact ⟨_, rfl, r⟩
  | _, _, i + 1, x, .cons _ r, h => by
    obtain ⟨y, h1, h2⟩ := RVs.get (i := i) r (by simpa using h)
    exact ⟨y, by simpa using h1, h2⟩
theorem RVs.append : ∀ {a b : List MV} {v w : List V}, RVs K H ρ a v → RVs K H ρ b w → RVs K H ρ (a ++ b) (v ++ w)
  | _, _, _, _, .nil, s => s
  | _, _, _, _, .cons r t, s => .cons r (RVs.append t s)
theorem RVs.set {x : MV} {y : V} (r : RV K H ρ x y) : ∀ {d : List MV} {v : List V} (i : Nat), RVs K H ρ d v → RVs K H ρ (d.set i x) (v.set i y)
  | _, _, _, .nil => .nil
  | _, _, 0, .cons _ t => .cons r t
  | _, _, i + 1, .cons q t => .cons q (RVs.set r i t)
theorem RVs.erase : ∀ {d : List MV} {v : List V} (i : Nat), RVs K H ρ d v → RVs K H ρ (d.eraseIdx i) (v.eraseIdx i)
  | _, _, _, .nil => .nil
  | _, _, 0, .cons _ t => t
  | _, _, i + 1, .cons q t => .cons q (RVs.erase i t)
theorem RVs.take : ∀ {d : List MV} {v : List V} (n : Nat), RVs K H ρ d v → RVs K H ρ (d.take n) (v.take n)
  | _, _, 0, _ => by
    rw [List.take_zero, List.take_zero]
    exact .nil
  | _, _, n + 1, .nil => .nil
  | _, _, n + 1, .cons q t => .cons q (RVs.take n t)
theorem RVs.drop : ∀ {d : List MV} {v : List V} (n : Nat), RVs K H ρ d v → RVs K H ρ (d.drop n) (v.drop n)
  | _, _, 0, h => h
  | _, _, n + 1, .nil => .nil
  | _, _, n + 1, .cons _ t => RVs.drop n t
theorem RVs.reverse : ∀ {d : List MV} {v : List V}, RVs K H ρ d v → RVs K H ρ d.reverse v.reverse
  | _, _, .nil => .nil
  | _, _, .cons r t => by
    rw [List.reverse_cons, List.reverse_cons]
    exact (RVs.reverse t).append (.cons r .nil)
/-! ### the heap grows, changes -/
theorem sqT_new {p a : Addr} {o : HO} {xs : List V} (h : H p = none) (t : SqT K H a xs) : SqT K (upd H p o) a xs := by
  rcases t with (t | ⟨ob, t⟩) | t
  · exact .inl (.inl (by rw [upd_ne (ne_of_none t h)]; exact t))
  · exact .inl (.inr ⟨ob, by rw [upd_ne (ne_of_none t h)]; exact t⟩)
  · exact .inr t
/-- an object that is no tuple, no list or tuple that is locked -/
def LooseW (o : HO) : Prop := (∀ ys, o ≠ .tup ys) ∧ (∀ ob ys, o ≠ .frz ob (.tup ys)) ∧ ∀ ob ys, o ≠ .frz ob (.lst ys)
/-- .. and not locked at all -/
def Loose (o : HO) : Prop := (∀ ys, o ≠ .tup ys) ∧ ∀ ob u, o ≠ .frz ob u
theorem Loose.w {o : HO} (h : Loose o) : LooseW o := ⟨h.1, fun _ _ => h.2 _ _, fun _ _ => h.2 _ _⟩
theorem loose_lst {ys : List V} : Loose (.lst ys) := ⟨fun _ z => (by cases z), fun _ _ z => (by cases z)⟩
theorem loose_ins {C dx : Addr} {fs : List (Str × V)} : Loose (.ins C dx fs) := ⟨fun _ z => (by cases z), fun _ _ z => (by cases z)⟩
theorem loose_dK {kvs : List (Key × V)} : Loose (.dK kvs) := ⟨fun _ z => (by cases z), fun _ _ z => (by cases z)⟩
theorem loose_frzK {o : Obj} {kvs : List (Key × V)} : LooseW (.frz o (.dK kvs)) := ⟨fun _ z => (by cases z), fun _ _ z => (by cases z), fun _ _ z => (by cases z)⟩
theorem sqT_setC {p a : Addr} {o o' : HO} {xs : List V} (h : H p = some o') (ho : LooseW o') (t : SqT K H a xs) : SqT K (upd H p o) a xs := by
  rcases t with (t | ⟨ob, t⟩) | t
  · exact .inl (.inl (by rw [upd_ne (ne_of t h fun z => ho.1 _ z.symm)]; exact t))
  · exact .inl (.inr ⟨ob, by rw [upd_ne (ne_of t h fun z => ho.2.1 _ _ z.symm)]; exact t⟩)
  · exact .inr t
theorem sqT_set {p a : Addr} {o : HO} {xs ys : List V} (h : H p = some (.lst ys)) (t : SqT K H a xs) : SqT K (upd H p o) a xs := sqT_setC h loose_lst.w t
theorem roL_new {p a : Addr} {o : HO} {xs : List V} (h : H p = none) (t : RoL K H a xs) : RoL K (upd H p o) a xs := by
  rcases t with ⟨ob, t⟩ | t
  · exact .inl ⟨ob, by rw [upd_ne (ne_of_none t h)]; exact t⟩
  · exact .inr t
theorem roL_setC {p a : Addr} {o o' : HO} {xs : List V} (h : H p = some o') (ho : LooseW o') (t : RoL K H a xs) : RoL K (upd H p o) a xs := by
  rcases t with ⟨ob, t⟩ | t
  · exact .inl ⟨ob, by rw [upd_ne (ne_of t h fun z => ho.2.2 _ _ z.symm)]; exact t⟩
  · exact .inr t
theorem roL_set {p a : Addr} {o : HO} {xs ys : List V} (h : H p = some (.lst ys)) (t : RoL K H a xs) : RoL K (upd H p o) a xs := roL_setC h loose_lst.w t
/-- a tuple is laid: nothing else changes -/
theorem frz_new {p a : Addr} {o ob : Obj} {o2 : HO} {u : HO} (h : H p = none) (t : H a = some (.frz ob u)) : upd H p o2 a = some (.frz ob u) := by
  rw [upd_ne (ne_of_none t h)]
  exact t
theorem ext_upd {p : Addr} {o : HO} (h : H p = none) : Ext K ρ H ρ (upd H p o) := ⟨⟨[], (List.append_nil _).symm⟩, fun _ _ t => sqT_new h t, fun _ _ _ t => by rw [upd_ne (ne_of_none t h)]; exact t⟩
theorem ext_new {p : Addr} {o : HO} (h : H p = none) : Ext K ρ H (ρ ++ [p]) (upd H p o) := ⟨⟨[p], rfl⟩, fun _ _ t => sqT_new h t, fun _ _ _ t => by rw [upd_ne (ne_of_none t h)]; exact t⟩
theorem ext_setC {p : Addr} {o o' : HO} (h : H p = some o') (ho : Loose o') : Ext K ρ H ρ (upd H p o) := ⟨⟨[], (List.append_nil _).symm⟩, fun _ _ t => sqT_setC h ho.w t, fun _ _ _ t => by rw [upd_ne (ne_of t h fun z => ho.2 _ _ z.symm)]; exact t⟩
theorem ext_set {p : Addr} {o : HO} {ys : List V} (h : H p = some (.lst ys)) : Ext K ρ H ρ (upd H p o) := ext_setC h loose_lst
theorem extW_setC {p : Addr} {o o' : HO} (h : H p = some o') (ho : LooseW o') : ExtW K ρ H ρ (upd H p o) := ⟨⟨[], (List.append_nil _).symm⟩, fun _ _ t => sqT_setC h ho t⟩
theorem RC.upd_none {a p : Addr} {o : HO} {c : Cell} (h : H p = none) (e : Ext K ρ H ρ' (upd H p o)) (r : RC K H ρ a c) : RC K (upd H p o) ρ' a c := by
  cases c with
  | lst l =>
    obtain ⟨xs, h1, h2⟩ := r
    exact ⟨xs, by rw [upd_ne (ne_of_none h1 h)]; exact h1, h2.mono e⟩
  | ro l =>
    obtain ⟨xs, h1, h2⟩ := r
    exact ⟨xs, roL_new h h1, h2.mono e⟩
  | ins c fs =>
    obtain ⟨C, dx, xs, h1, h2, h3⟩ := r
    exact ⟨C, dx, xs, by rw [upd_ne (ne_of_none h1 h)]; exact h1, h2, h3.mono e⟩
  | dct kvs =>
    obtain ⟨xs, h1, h2⟩ := r
    exact ⟨xs, by rw [upd_ne (ne_of_none h1 h)]; exact h1, h2.mono e⟩
  | rdc kvs =>
    obtain ⟨o, xs, h1, h2⟩ := r
    exact ⟨o, xs, by rw [upd_ne (ne_of_none h1 h)]; exact h1, h2.mono e⟩
/-- what stands in a cell is known to the heap -/
theorem RC.some_of {a : Addr} {c : Cell} (m : mutC c = true) (r : RC K H ρ a c) : ∃ o, H a = some o := by
  cases c with
  | lst l => obtain ⟨xs, h, _⟩ := r; exact ⟨_, h⟩
  | ro l => cases m
  | ins c fs => obtain ⟨C, dx, xs, h, _⟩ := r; exact ⟨_, h⟩
  | dct kvs => obtain ⟨xs, h, _⟩ := r; exact ⟨_, h⟩
  | rdc kvs => obtain ⟨o, xs, h, _⟩ := r; exact ⟨_, h⟩
theorem RC.upd_set {a p : Addr} {o o' : HO} {c : Cell} (h : H p = some o') (ho : LooseW o') (ne : mutC c = true → a ≠ p) (r : RC K H ρ a c) : RC K (upd H p o) ρ a c := by
  cases c with
  | lst l =>
    obtain ⟨xs, h1, h2⟩ := r
    exact ⟨xs, by rw [upd_ne (ne rfl)]; exact h1, h2.monoW (extW_setC h ho)⟩
  | ro l =>
    obtain ⟨xs, h1, h2⟩ := r
    exact ⟨xs, roL_setC h ho h1, h2.monoW (extW_setC h ho)⟩
  | ins c fs =>
    obtain ⟨C, dx, xs, h1, h2, h3⟩ := r
    exact ⟨C, dx, xs, by rw [upd_ne (ne rfl)]; exact h1, h2, h3.monoW (extW_setC h ho)⟩
  | dct kvs =>
    obtain ⟨xs, h1, h2⟩ := r
    exact ⟨xs, by rw [upd_ne (ne rfl)]; exact h1, h2.monoW (extW_setC h ho)⟩
  | rdc kvs =>
    obtain ⟨o, xs, h1, h2⟩ := r
    exact ⟨o, xs, by rw [upd_ne (ne rfl)]; exact h1, h2.monoW (extW_setC h ho)⟩
theorem RS.upd_tup {st : Store} {p : Addr} {o : HO} (h : H p = none) (r : RS K H ρ st) : RS K (upd H p o) ρ st :=
  ⟨r.len, fun n c a h1 h2 => (r.cell n c a h1 h2).upd_none h (ext_upd h), r.inj⟩
/-- a new cell -/
theorem RS.newC {st : Store} {p : Addr} {o : HO} {c0 : Cell} (h : H p = none) (r : RS K H ρ st) (rl : RC K (upd H p o) (ρ ++ [p]) p c0) : RS K (upd H p o) (ρ ++ [p]) (st ++ [c0]) := by
  have lt_of : ∀ {n : Nat} {c : Cell}, (st ++ [c0])[n]? = some c → n < st.length ∧ st[n]? = some c ∨ n = st.length ∧ c = c0 := fun {n c} e => by
    by_cases hn : n < st.length
    · rw [List.getElem?_append_left hn] at e
      exact .inl ⟨hn, e⟩
    · have h2 := (List.getElem?_eq_some_iff.mp e).1
      simp at h2
      have e3 : n = st.length := by omega
      subst e3
      simp at e
      exact .inr ⟨rfl, e.symm⟩
  have rho_of : ∀ {n : Nat} {a : Addr}, n < st.length → (ρ ++ [p])[n]? = some a → ρ[n]? = some a := fun {n a} hn e => by
    rw [List.getElem?_append_left (by rw [r.len]; exact hn)] at e
    exact e
  have rho_at : ∀ {a : Addr}, (ρ ++ [p])[st.length]? = some a → a = p := fun {a} e => by
    rw [← r.len] at e
    simp at e
    exact e.symm
  refine ⟨by simp [r.len], fun n c a h1 h2 => ?_, fun n m a l1 l2 h1 h2 h3 h4 m1 m2 => ?_⟩
  · rcases lt_of h1 with ⟨hn, h3⟩ | ⟨hn, h3⟩
    · exact (r.cell n c a h3 (rho_of hn h2)).upd_none h (ext_new h)
    · subst hn h3
      have := rho_at h2
      subst this
      exact rl
  · rcases lt_of h3 with ⟨hn, h3⟩ | ⟨hn, h3⟩
    · rcases lt_of h4 with ⟨hm, h4⟩ | ⟨hm, h4⟩
      · exact r.inj n m a l1 l2 (rho_of hn h1) (rho_of hm h2) h3 h4 m1 m2
      · subst hm
        have e := rho_at h2
        subst e
        obtain ⟨ob, h5⟩ := (r.cell n _ _ h3 (rho_of hn h1)).some_of m1
        rw [h] at h5
        cases h5
    · subst hn
      have e := rho_at h1
      subst e
      rcases lt_of h4 with ⟨hm, h4⟩ | ⟨hm, h4⟩
      · obtain ⟨ob, h5⟩ := (r.cell m _ _ h4 (rho_of hm h2)).some_of m2
        rw [h] at h5
        cases h5
      · exact hm.symm
/-- a new list -/
theorem RS.new {st : Store} {p : Addr} {l : List MV} {xs : List V} (h : H p = none) (r : RS K H ρ st) (rl : RVs K H ρ l xs) : RS K (upd H p (.lst xs)) (ρ ++ [p]) (st ++ [.lst l]) :=
  r.newC h ⟨xs, upd_same, rl.mono (ext_new h)⟩
/-- a cell changes -/
theorem RS.setC {st : Store} {p : Addr} {o o' : HO} {c0 c' : Cell} {n : Nat} (r : RS K H ρ st) (hn : st[n]? = some c0) (m0 : mutC c0 = true) (m' : mutC c' = true) (hp : ρ[n]? = some p) (hH : H p = some o) (ho : LooseW o) (rl : RC K (upd H p o') ρ p c') :
    RS K (upd H p o') ρ (st.set n c') := by
  have hlt : n < st.length := (List.getElem?_eq_some_iff.mp hn).1
  have at_ : ∀ {m : Nat} {c : Cell}, (st.set n c')[m]? = some c → (m = n ∧ c = c') ∨ (m ≠ n ∧ st[m]? = some c) := fun {m c} e => by
    by_cases h : m = n
    · subst h
      rw [List.getElem?_set_self hlt] at e
      exact .inl ⟨rfl, (Option.some.inj e).symm⟩
    · rw [List.getElem?_set_ne (Ne.symm h)] at e
      exact .inr ⟨h, e⟩
  refine ⟨by rw [List.length_set]; exact r.len, fun m c a h1 h2 => ?_, fun m k a l1 l2 h1 h2 h3 h4 q1 q2 => ?_⟩
  · rcases at_ h1 with ⟨rfl, rfl⟩ | ⟨hm, h3⟩
    · rw [hp] at h2
      cases h2
      exact rl
    · exact (r.cell m c a h3 h2).upd_set hH ho fun mc e => by
        subst e
        exact hm (r.inj m n a c c0 h2 hp h3 hn mc m0)
  · have f : ∀ {m : Nat} {l1 : Cell}, (st.set n c')[m]? = some l1 → mutC l1 = true → ∃ l0, st[m]? = some l0 ∧ mutC l0 = true := fun {m l1} e q => by
      rcases at_ e with ⟨rfl, _⟩ | ⟨_, h⟩
      · exact ⟨c0, hn, m0⟩
      · exact ⟨_, h, q⟩
    obtain ⟨a1, b1, d1⟩ := f h3 q1
    obtain ⟨a2, b2, d2⟩ := f h4 q2
    exact r.inj m k a a1 a2 h1 h2 b1 b2 d1 d2
/-- a list changes -/
theorem RS.set {st : Store} {p : Addr} {l l' : List MV} {xs xs' : List V} {n : Nat} (r : RS K H ρ st) (hn : st[n]? = some (.lst l)) (hp : ρ[n]? = some p) (hH : H p = some (.lst xs)) (rl : RVs K H ρ l' xs') :
    RS K (upd H p (.lst xs')) ρ (st.set n (.lst l')) := r.setC hn rfl rfl hp hH loose_lst.w ⟨xs', upd_same, rl.mono (ext_set hH)⟩
/-! ### what a place holds -/
theorem RoL.sq {a : Addr} {xs : List V} (h : RoL K H a xs) : SqL K H a xs := by
  rcases h with ⟨o, h⟩ | h
  · exact .inl (.inr ⟨o, h⟩)
  · exact .inr h
theorem RS.getL {st : Store} {n : Nat} {l : List MV} {a : Addr} (r : RS K H ρ st) (h : Mini.getL st n = some l) (ha : ρ[n]? = some a) : ∃ xs, SqL K H a xs ∧ RVs K H ρ l xs := by
  unfold Mini.getL at h
  split at h
  · cases h
    rename_i h2
    obtain ⟨xs, h3, h4⟩ := r.cell n _ a h2 ha
    exact ⟨xs, .inl (.inl h3), h4⟩
  · cases h
    rename_i h2
    obtain ⟨xs, h3, h4⟩ := r.cell n _ a h2 ha
    exact ⟨xs, h3.sq, h4⟩
  · cases h
theorem RS.getM {st : Store} {n : Nat} {l : List MV} {a : Addr} (r : RS K H ρ st) (h : st[n]? = some (.lst l)) (ha : ρ[n]? = some a) : ∃ xs, H a = some (.lst xs) ∧ RVs K H ρ l xs := r.cell n _ a h ha
theorem len_ok {n : Nat} (h : n ≤ Mini.sizeMax) : n ≤ sizeLine := Nat.le_trans h (by decide)
theorem len_lt {n : Nat} (h : n < Mini.sizeMax) : n < sizeLine := Nat.lt_of_lt_of_le h (by decide)
/-! ### what an outcome asks -/
def OkE (K : PySem.W.Frag) (ρ : Rho) (H : Hp) (o : Out MV) (Q : VK) : Prop := match o with
  | .ok d st => ∀ ρ' v H', Ext K ρ H ρ' H' → RS K H' ρ' st → RV K H' ρ' d v → Q v H'
  | _ => False
theorem OkE.mono {o : Out MV} {Q : VK} (e : Ext K ρ H ρ' H') (h : OkE K ρ H o Q) : OkE K ρ' H' o Q := by
  cases o with
  | ok d st => exact fun ρ1 v H1 e1 r1 r2 => h ρ1 v H1 (e.trans e1) r1 r2
  | exc _ _ => exact h
  | bad => exact h
theorem OkE.newL {l : List MV} {xs : List V} {st : Store} {Q : VK} (h : OkE K ρ H (Mini.newL l st) Q) (r : RS K H ρ st) (rl : RVs K H ρ l xs) : xs.length ≤ sizeLine ∧ ∀ p, H p = none → Q (.ref p) (upd H p (.lst xs)) := by
  unfold Mini.newL at h
  split at h
  · rename_i hl
    refine ⟨by rw [← rl.length]; exact len_ok hl, fun p hp => ?_⟩
    refine h (ρ ++ [p]) (.ref p) _ (ext_new hp) (r.new hp rl) (.loc ?_)
    rw [← r.len]
    simp
  · exact h.elim
/-! ### operators by values -/
def R2o (K : PySem.W.Frag) (o : Store → MV → MV → Out MV) : R2 := fun v w H Q => ∃ ρ st x y, RS K H ρ st ∧ RV K H ρ x v ∧ RV K H ρ y w ∧ OkE K ρ H (o st x y) Q
theorem okE_int {i : Int} {st : Store} {Q : VK} (r : RS K H ρ st) (h : OkE K ρ H (.ok (.int i) st) Q) : Q (.int i) H := h ρ _ H .refl r (.int i)
theorem okE_bl {i : Bool} {st : Store} {Q : VK} (r : RS K H ρ st) (h : OkE K ρ H (.ok (.bl i) st) Q) : Q (.bl i) H := h ρ _ H .refl r (.bl i)
end
section
variable {X : L2.Cx}
theorem OpR.imp {f : Value → Value → Sem Value} {r r' : R2} (h : OpR X f r) (i : ∀ x y H Q, r' x y H Q → r x y H Q) : OpR X f r' := fun pins s σ H x y v u Q I rx ry q => h pins s σ H x y v u Q I rx ry (i _ _ _ _ q)
theorem d_add : OpR X (binaryOp .Add) (R2o X.K Mini.opAdd) := by
  intro pins s σ H v w a b Q I ra rb h
  obtain ⟨ρ, st, x, y, rs, rx, ry, h⟩ := h
  unfold Mini.opAdd at h
  split at h
  · cases rx; cases ry
    exact op_add pins s σ H _ _ a b Q I ra rb ⟨_, _, rfl, rfl, okE_int rs h⟩
  · cases rx with
    | loc h1 =>
      cases ry with
      | loc h2 =>
        split at h
        · rename_i e1 e2
          obtain ⟨xs, g1, g2⟩ := rs.getM e1 h1
          obtain ⟨ys, g3, g4⟩ := rs.getM e2 h2
          obtain ⟨z1, z2⟩ := OkE.newL h rs (g2.append g4)
          exact op_cat pins s σ H _ _ a b Q I ra rb ⟨_, _, xs, ys, rfl, rfl, g1, g3, by rw [← List.length_append]; exact z1, z2⟩
        · exact h.elim
  · cases rx with
    | tup h1 r1 =>
      cases ry with
      | tup h2 r2 =>
        split at h
        · rename_i hz
          rw [r1.length, r2.length] at hz
          refine op_catA pins s σ H _ _ a b Q I ra rb ⟨_, _, _, _, rfl, rfl, h1, h2, Nat.le_trans hz (by decide), fun e => ?_, fun e e2 => ?_, fun e e2 p hp => ?_⟩
          · subst e
            refine h ρ _ H .refl rs (.tup h2 ?_)
            cases r1
            exact r2
          · subst e2
            refine h ρ _ H .refl rs (.tup h1 ?_)
            cases r2
            rw [List.append_nil]
            exact r1
          · exact h ρ _ _ (ext_upd hp) (rs.upd_tup hp) (.tup (.inl (.inl upd_same)) ((r1.append r2).mono (ext_upd hp)))
        · exact h.elim
  · exact h.elim
/-- two ints in, a value out -/
theorem int2 {K : PySem.W.Frag} {ρ : Rho} {H : Hp} {x y : MV} {v w : V} {Q : VK} {f : MV → MV → Out MV} {g : Int → Int → Out MV} (hf : ∀ i j, f (.int i) (.int j) = g i j) (hn : ∀ x y, (∀ i j, ¬ (x = .int i ∧ y = .int j)) → f x y = .bad)
    (rx : RV K H ρ x v) (ry : RV K H ρ y w) (h : OkE K ρ H (f x y) Q) : ∃ i j, v = .int i ∧ w = .int j ∧ OkE K ρ H (g i j) Q := by
  by_cases e : ∃ i j, x = .int i ∧ y = .int j
  · obtain ⟨i, j, rfl, rfl⟩ := e
    cases rx; cases ry
    exact ⟨i, j, rfl, rfl, by rw [hf] at h; exact h⟩
  · rw [hn x y fun i j z => e ⟨i, j, z⟩] at h
    exact h.elim
theorem nint {x y : MV} {f : MV → MV → Out MV} {g : Int → Int → Out MV} (hf : f = fun x y => match x, y with | .int i, .int j => g i j | _, _ => .bad) (h : ∀ i j, ¬ (x = .int i ∧ y = .int j)) : f x y = .bad := by
  subst hf
  cases x <;> cases y <;> first | rfl | exact absurd ⟨rfl, rfl⟩ (h _ _)
theorem d_sub : OpR X (binaryOp .Sub) (R2o X.K fun st x y => Mini.op2 .sub x y st) := by
  intro pins s σ H v w a b Q I ra rb h
  obtain ⟨ρ, st, x, y, rs, rx, ry, h⟩ := h
  obtain ⟨i, j, rfl, rfl, h⟩ := int2 (f := fun x y => Mini.op2 .sub x y st) (g := fun i j => .ok (.int (i - j)) st) (fun _ _ => rfl) (fun x y z => nint rfl z) rx ry h
  exact op_sub pins s σ H _ _ a b Q I ra rb ⟨_, _, rfl, rfl, okE_int rs h⟩
theorem d_fdiv : OpR X (binaryOp .FloorDiv) (R2o X.K fun st x y => Mini.op2 .fdiv x y st) := by
  intro pins s σ H v w a b Q I ra rb h
  obtain ⟨ρ, st, x, y, rs, rx, ry, h⟩ := h
  obtain ⟨i, j, rfl, rfl, h⟩ := int2 (f := fun x y => Mini.op2 .fdiv x y st) (g := fun i j => if 0 < j ∧ j.natAbs.log2 < 9000 then .ok (.int (i / j)) st else .bad) (fun _ _ => rfl) (fun x y z => nint rfl z) rx ry h
  split at h
  · rename_i hc
    exact op_fdivW pins s σ H _ _ a b Q I ra rb ⟨_, _, rfl, rfl, hc, okE_int rs h⟩
  · exact h.elim
theorem d_mod : OpR X (binaryOp .Mod) (R2o X.K fun st x y => Mini.op2 .mod x y st) := by
  intro pins s σ H v w a b Q I ra rb h
  obtain ⟨ρ, st, x, y, rs, rx, ry, h⟩ := h
  obtain ⟨i, j, rfl, rfl, h⟩ := int2 (f := fun x y => Mini.op2 .mod x y st) (g := fun i j => if 0 < j then .ok (.int (i % j)) st else .bad) (fun _ _ => rfl) (fun x y z => nint rfl z) rx ry h
  split at h
  · rename_i hc
    exact op_mod pins s σ H _ _ a b Q I ra rb ⟨_, _, rfl, rfl, hc, okE_int rs h⟩
  · exact h.elim
theorem d_pow : OpR X (binaryOp .Pow) (R2o X.K fun st x y => Mini.op2 .pow x y st) := by
  intro pins s σ H v w a b Q I ra rb h
  obtain ⟨ρ, st, x, y, rs, rx, ry, h⟩ := h
  obtain ⟨i, j, rfl, rfl, h⟩ := int2 (f := fun x y => Mini.op2 .pow x y st) (g := fun i j => if 0 ≤ j ∧ j ≤ 1000000 ∧ i.natAbs < 2 ^ 64 then .ok (.int (i ^ j.toNat)) st else .bad) (fun _ _ => rfl) (fun x y z => nint rfl z) rx ry h
  split at h
  · rename_i hc
    exact op_pow pins s σ H _ _ a b Q I ra rb ⟨_, _, rfl, rfl, hc, okE_int rs h⟩
  · exact h.elim
theorem repV_length (l : List MV) : ∀ n, (Mini.repV l n).length = l.length * n
  | 0 => rfl
  | n + 1 => by
    show (l ++ Mini.repV l n).length = _
    rw [List.length_append, repV_length l n, Nat.mul_succ, Nat.add_comm]
theorem RVs.rep {K : PySem.W.Frag} {ρ : Rho} {H : Hp} {l : List MV} {xs : List V} (r : RVs K H ρ l xs) : ∀ n, RVs K H ρ (Mini.repV l n) (List.replicate n xs).flatten
  | 0 => .nil
  | n + 1 => by
    rw [List.replicate_succ, List.flatten_cons]
    exact r.append (RVs.rep r n)
theorem d_mul : OpR X (binaryOp .Mult) (R2o X.K Mini.opMul) := by
  intro pins s σ H v w a b Q I ra rb h
  obtain ⟨ρ, st, x, y, rs, rx, ry, h⟩ := h
  unfold Mini.opMul at h
  split at h
  · cases rx; cases ry
    split at h
    · rename_i hc
      exact op_mulW pins s σ H _ _ a b Q I ra rb ⟨_, _, rfl, rfl, hc, okE_int rs h⟩
    · exact h.elim
  · cases rx with
    | loc h1 =>
      cases ry
      split at h
      · rename_i e1
        obtain ⟨xs, g1, g2⟩ := rs.getM e1 h1
        split at h
        · rename_i j _ l _ hj
          obtain ⟨z1, z2⟩ := OkE.newL h rs (g2.rep j.toNat)
          refine op_rep pins s σ H _ _ a b Q I ra rb ⟨_, _, xs, rfl, rfl, g1, by omega, by omega, ?_, z2⟩
          have h3 : (List.replicate j.toNat xs).flatten.length = xs.length * j.toNat := by
            rw [← (g2.rep j.toNat).length, repV_length, g2.length]
          rw [← h3]
          exact z1
        · exact h.elim
      · exact h.elim
  · exact h.elim
/-- comparisons of ints -/
theorem d_cmp {op : CmpOp} {p : Int → Int → Bool} (ho : OpR X (compareOp op) (rI0 fun i j => .bl (p i j))) : OpR X (compareOp op) (R2o X.K (Mini.cmpI p)) := by
  intro pins s σ H v w a b Q I ra rb h
  obtain ⟨ρ, st, x, y, rs, rx, ry, h⟩ := h
  obtain ⟨i, j, rfl, rfl, h⟩ := int2 (f := Mini.cmpI p st) (g := fun i j => .ok (.bl (p i j)) st) (fun _ _ => rfl) (fun x y z => by cases x <;> cases y <;> first | rfl | exact absurd ⟨rfl, rfl⟩ (z _ _)) rx ry h
  exact ho pins s σ H _ _ a b Q I ra rb ⟨_, _, rfl, rfl, okE_bl rs h⟩
/-! ### == of data -/
mutual
def toPy : MV → PyData
  | .bl b => .bool b
  | .int i => .int i
  | .lst l => .list (toPys l)
  | .tup l => .tuple (toPys l)
  | _ => .none
def toPys : List MV → List PyData
  | [] => []
  | x :: r => toPy x :: toPys r
end
theorem mapO_cons {α β : Type} {f : α → Option β} {x : α} {r : List α} {ys : List β} (h : Mini.mapO f (x :: r) = some ys) : ∃ y zs, f x = some y ∧ Mini.mapO f r = some zs ∧ ys = y :: zs := by
  unfold Mini.mapO at h
  cases e : f x with
  | none => rw [e] at h; cases h
  | some y =>
    rw [e] at h
    cases e2 : Mini.mapO f r with
    | none => rw [e2] at h; cases h
    | some zs =>
      rw [e2] at h
      cases h
      exact ⟨y, zs, rfl, rfl, rfl⟩
section
variable {K : PySem.W.Frag} {ρ : Rho} {H : Hp} {st : Store}
theorem dpAll_of {f : MV → Option MV} (hf : ∀ x d v, f x = some d → RV K H ρ x v → Dp K H v (toPy d)) : ∀ (l : List MV) (ds : List MV) (vs : List V), Mini.mapO f l = some ds → RVs K H ρ l vs → DpAll K H vs (toPys ds)
  | [], ds, vs, h, r => by
    cases h
    cases r
    exact .nil
  | x :: l, ds, vs, h, r => by
    obtain ⟨y, zs, e1, e2, rfl⟩ := mapO_cons h
    cases r with
    | cons r1 r2 => exact .cons (hf x y _ e1 r1) (dpAll_of hf l zs _ e2 r2)
theorem dp_of (rs : RS K H ρ st) : ∀ (n : Nat) (x d : MV) (v : V), Mini.toD n st x = some d → RV K H ρ x v → Dp K H v (toPy d) := by
  intro n
  induction n with
  | zero =>
    intro x d v h r
    cases x with
    | non => cases h; cases r; exact .non
    | bl b => cases h; cases r; exact .bl _
    | int i => cases h; cases r; exact .int _
    | _ => simp [Mini.toD] at h
  | succ n ih =>
    intro x d v h r
    cases x with
    | non => cases h; cases r; exact .non
    | bl b => cases h; cases r; exact .bl _
    | int i => cases h; cases r; exact .int _
    | str z => cases h
    | lst l => cases h
    | tup l =>
      cases e : Mini.mapO (Mini.toD n st) l with
      | none => simp only [Mini.toD, e] at h; cases h
      | some ds =>
        simp only [Mini.toD, e] at h
        cases h
        cases r with
        | tup h1 h2 => exact .tup h1 (dpAll_of ih l ds _ e h2)
    | loc k =>
      cases e0 : Mini.getL st k with
      | none => simp only [Mini.toD, e0] at h; cases h
      | some l =>
        cases e : Mini.mapO (Mini.toD n st) l with
        | none => simp only [Mini.toD, e0, Option.bind_some, e] at h; cases h
        | some ds =>
          simp only [Mini.toD, e0, Option.bind_some, e] at h
          cases h
          cases r with
          | loc h1 =>
            obtain ⟨xs, h2, h3⟩ := rs.getL e0 h1
            exact .lst h2 (dpAll_of ih l ds _ e h3)
end
/-! no texts, not deep -/
mutual
def plainD : Nat → MV → Bool
  | _, .non => true
  | _, .bl _ => true
  | _, .int _ => true
  | n + 1, .lst l => plainL n l
  | n + 1, .tup l => plainL n l
  | _, _ => false
def plainL : Nat → List MV → Bool
  | _, [] => true
  | n, x :: r => plainD n x && plainL n r
end
theorem plainL_of {f : MV → Option MV} {n : Nat} (hf : ∀ x d, f x = some d → plainD n d = true) : ∀ (l ds : List MV), Mini.mapO f l = some ds → plainL n ds = true
  | [], _, h => by cases h; unfold plainL; rfl
  | x :: l, _, h => by
    obtain ⟨y, zs, e1, e2, rfl⟩ := mapO_cons h
    unfold plainL
    rw [hf x y e1, plainL_of hf l zs e2] <;> rfl
theorem plain_of {st : Store} : ∀ (n : Nat) (x d : MV), Mini.toD n st x = some d → plainD n d = true := by
  intro n
  induction n with
  | zero =>
    intro x d h
    cases x with
    | non => cases h; unfold plainD; rfl
    | bl b => cases h; unfold plainD; rfl
    | int i => cases h; unfold plainD; rfl
    | _ => simp [Mini.toD] at h
  | succ n ih =>
    intro x d h
    cases x with
    | non => cases h; unfold plainD; rfl
    | bl b => cases h; unfold plainD; rfl
    | int i => cases h; unfold plainD; rfl
    | str z => cases h
    | lst l => cases h
    | tup l =>
      cases e : Mini.mapO (Mini.toD n st) l with
      | none => simp only [Mini.toD, e] at h; cases h
      | some ds =>
        simp only [Mini.toD, e] at h
        cases h
        unfold plainD
        exact plainL_of ih l ds e
    | loc k =>
      cases e0 : Mini.getL st k with
      | none => simp only [Mini.toD, e0] at h; cases h
      | some l =>
        cases e : Mini.mapO (Mini.toD n st) l with
        | none => simp only [Mini.toD, e0, Option.bind_some, e] at h; cases h
        | some ds =>
          simp only [Mini.toD, e0, Option.bind_some, e] at h
          cases h
          unfold plainD
          exact plainL_of ih l ds e
mutual
theorem plain_lay : ∀ (n : Nat) (d : MV), plainD n d = true → (toPy d).canLay0 = true ∧ (toPy d).depth ≤ n + 1
  | n, .non, _ => ⟨rfl, by simp [toPy, PyData.depth]⟩
  | n, .bl _, _ => ⟨rfl, by simp [toPy, PyData.depth]⟩
  | n, .int _, _ => ⟨rfl, by simp [toPy, PyData.depth]⟩
  | 0, .lst l, h => by simp [plainD] at h
  | 0, .tup l, h => by simp [plainD] at h
  | n + 1, .lst l, h => by
    have h' : plainL n l = true := by simpa [plainD] using h
    obtain ⟨a, b⟩ := plainL_lay n l h'
    refine ⟨by simpa [toPy, PyData.canLay0] using a, ?_⟩
    simp only [toPy, PyData.depth]
    omega
  | n + 1, .tup l, h => by
    have h' : plainL n l = true := by simpa [plainD] using h
    obtain ⟨a, b⟩ := plainL_lay n l h'
    refine ⟨by simpa [toPy, PyData.canLay0] using a, ?_⟩
    simp only [toPy, PyData.depth]
    omega
  | _, .str _, h => by simp [plainD] at h
  | _, .loc _, h => by simp [plainD] at h
theorem plainL_lay : ∀ (n : Nat) (l : List MV), plainL n l = true → PyData.canLayAll0 (toPys l) = true ∧ PyData.depthAll (toPys l) ≤ n + 1
  | n, [], _ => ⟨rfl, by simp [toPys, PyData.depthAll]⟩
  | n, x :: r, h => by
    have h' : plainD n x = true ∧ plainL n r = true := by simpa [plainL] using h
    obtain ⟨a1, b1⟩ := plain_lay n x h'.1
    obtain ⟨a2, b2⟩ := plainL_lay n r h'.2
    refine ⟨by simp only [toPys, PyData.canLayAll0, a1, a2] <;> rfl, ?_⟩
    simp only [toPys, PyData.depthAll]
    omega
end
theorem plain_shaped {n : Nat} {d : MV} (h : plainD n d = true) (hn : n ≤ 60) : SeqAt.shaped (toPy d) = true := by
  obtain ⟨a, b⟩ := plain_lay n d h
  unfold SeqAt.shaped
  rw [a, decide_eq_true (by omega)] <;> rfl
mutual
theorem eqv_py : ∀ (n : Nat) (d e : MV), plainD n d = true → plainD n e = true → PyData.eqv (toPy d) (toPy e) = Mini.eqvD d e
  | n, d, e, hd, he => by
    cases d with
    | str _ => simp [plainD] at hd
    | loc _ => simp [plainD] at hd
    | non => cases e <;> first | rfl | simp [plainD] at he
    | bl _ => cases e <;> first | rfl | simp [plainD] at he
    | int _ => cases e <;> first | rfl | simp [plainD] at he
    | lst l =>
      cases n with
      | zero => simp [plainD] at hd
      | succ n =>
        cases e with
        | lst l2 =>
          have h1 : plainL n l = true := by simpa [plainD] using hd
          have h2 : plainL n l2 = true := by simpa [plainD] using he
          simp only [toPy, PyData.eqv, Mini.eqvD]
          exact eqvL_py n l l2 h1 h2
        | str _ => simp [plainD] at he
        | loc _ => simp [plainD] at he
        | _ => rfl
    | tup l =>
      cases n with
      | zero => simp [plainD] at hd
      | succ n =>
        cases e with
        | tup l2 =>
          have h1 : plainL n l = true := by simpa [plainD] using hd
          have h2 : plainL n l2 = true := by simpa [plainD] using he
          simp only [toPy, PyData.eqv, Mini.eqvD]
          exact eqvL_py n l l2 h1 h2
        | str _ => simp [plainD] at he
        | loc _ => simp [plainD] at he
        | _ => rfl
  termination_by n d => (n, sizeOf d)
theorem eqvL_py : ∀ (n : Nat) (d e : List MV), plainL n d = true → plainL n e = true → PyData.eqvAll (toPys d) (toPys e) = Mini.eqvL d e
  | n, [], [], _, _ => by simp [toPys, PyData.eqvAll, Mini.eqvL]
  | n, [], _ :: _, _, _ => by simp [toPys, PyData.eqvAll, Mini.eqvL]
  | n, _ :: _, [], _, _ => by simp [toPys, PyData.eqvAll, Mini.eqvL]
  | n, x :: r, y :: t, hd, he => by
    have h1 : plainD n x = true ∧ plainL n r = true := by simpa [plainL] using hd
    have h2 : plainD n y = true ∧ plainL n t = true := by simpa [plainL] using he
    simp only [toPys, PyData.eqvAll, Mini.eqvL]
    rw [eqv_py n x y h1.1 h2.1, eqvL_py n r t h1.2 h2.2]
  termination_by n d => (n, sizeOf d)
end
theorem str_ext {z w : Str} : (z.cps.toList = w.cps.toList) ↔ z = w := by
  constructor
  · intro h
    cases z; cases w
    simp only at h
    rw [show (_ : Array Nat) = _ from Array.toList_inj.mp h]
  · intro h
    rw [h]
theorem eqS_ok {K : PySem.W.Frag} {ρ : Rho} {H : Hp} {x y : MV} {v w : V} {b : Bool} (h : Mini.eqS x y = some b) (rx : RV K H ρ x v) (ry : RV K H ρ y w) : scal v w = true ∧ decide (v = w) = b := by
  unfold Mini.eqS at h
  split at h <;> cases h <;> cases rx <;> cases ry
  · exact ⟨rfl, by simp⟩
  · exact ⟨rfl, by simp⟩
  · exact ⟨rfl, by simp⟩
  · rename_i z h1 w h2
    refine ⟨rfl, ?_⟩
    subst h1 h2
    rw [Bool.eq_iff_iff, decide_eq_true_iff, decide_eq_true_iff]
    constructor
    · intro e
      cases e
      rfl
    · intro e
      rw [str_ext.mp e]
  all_goals exact ⟨rfl, by simp⟩
theorem d_eq (hu : X.A.units + 64 < cLine) : OpR X (compareOp .Eq) (R2o X.K fun st x y => Mini.op2 .eq x y st) := by
  intro pins s σ H v w a b Q I ra rb h
  obtain ⟨ρ, st, x, y, rs, rx, ry, h⟩ := h
  simp only [Mini.op2, Mini.opEq] at h
  cases e : Mini.eqS x y with
  | some k =>
    simp only [e] at h
    obtain ⟨h1, h2⟩ := eqS_ok e rx ry
    refine op_eq pins s σ H _ _ a b Q I ra rb ⟨h1, ?_⟩
    rw [h2]
    exact okE_bl rs h
  | none =>
    simp only [e] at h
    cases e1 : Mini.toD 8 st x with
    | none => simp only [e1] at h; exact h.elim
    | some d =>
      cases e2 : Mini.toD 8 st y with
      | none => simp only [e1, e2] at h; exact h.elim
      | some d' =>
        simp only [e1, e2] at h
        have p1 := plain_of 8 x d e1
        have p2 := plain_of 8 y d' e2
        refine op_eqD hu pins s σ H _ _ a b Q I ra rb ⟨_, _, dp_of rs 8 x d v e1 rx, dp_of rs 8 y d' w e2 ry, plain_shaped p1 (by decide), plain_shaped p2 (by decide), ?_⟩
        rw [eqv_py 8 d d' p1 p2]
        exact okE_bl rs h
theorem d_ne (hu : X.A.units + 64 < cLine) : OpR X (compareOp .NotEq) (R2o X.K fun st x y => Mini.op2 .ne x y st) := by
  intro pins s σ H v w a b Q I ra rb h
  obtain ⟨ρ, st, x, y, rs, rx, ry, h⟩ := h
  simp only [Mini.op2, Mini.opEq] at h
  cases e : Mini.eqS x y with
  | some k =>
    simp only [e] at h
    obtain ⟨h1, h2⟩ := eqS_ok e rx ry
    refine op_ne pins s σ H _ _ a b Q I ra rb ⟨h1, ?_⟩
    rw [h2]
    exact okE_bl rs h
  | none =>
    simp only [e] at h
    cases e1 : Mini.toD 8 st x with
    | none => simp only [e1] at h; exact h.elim
    | some d =>
      cases e2 : Mini.toD 8 st y with
      | none => simp only [e1, e2] at h; exact h.elim
      | some d' =>
        simp only [e1, e2] at h
        have p1 := plain_of 8 x d e1
        have p2 := plain_of 8 y d' e2
        refine op_neD hu pins s σ H _ _ a b Q I ra rb ⟨_, _, dp_of rs 8 x d v e1 rx, dp_of rs 8 y d' w e2 ry, plain_shaped p1 (by decide), plain_shaped p2 (by decide), ?_⟩
        rw [eqv_py 8 d d' p1 p2]
        exact okE_bl rs h
end
end DS
end

section
set_option Elab.async false
set_option linter.all false
set_option maxRecDepth 100000
set_option maxHeartbeats 1000000
/-! DeepSound2: expressions. -/
namespace DS
open PySem PySem.Spec PyProof.Rows L2
open Mini (MV Cell Store Out)
section
variable {K : PySem.W.Frag} {ρ ρ' : Rho} {H H' : Hp}
theorem okE_bind {α : Type} {o : Out α} {f : α → Store → Out MV} {Q : VK} (h : OkE K ρ H (o.bind f) Q) : ∃ x s, o = .ok x s ∧ OkE K ρ H (f x s) Q := by
  cases o with
  | ok x s => exact ⟨x, s, rfl, h⟩
  | exc _ _ => exact h.elim
  | bad => exact h.elim
def OkB (K : PySem.W.Frag) (ρ : Rho) (H : Hp) (o : Out Bool) (Q : Bool → Hp → Prop) : Prop := match o with
  | .ok b st => ∀ ρ' H', Ext K ρ H ρ' H' → RS K H' ρ' st → Q b H'
  | _ => False
theorem OkB.mono {o : Out Bool} {Q : Bool → Hp → Prop} (e : Ext K ρ H ρ' H') (h : OkB K ρ H o Q) : OkB K ρ' H' o Q := by
  cases o with
  | ok d st => exact fun ρ1 H1 e1 r1 => h ρ1 H1 (e.trans e1) r1
  | exc _ _ => exact h
  | bad => exact h
theorem okB_bind {α : Type} {o : Out α} {f : α → Store → Out Bool} {Q : Bool → Hp → Prop} (h : OkB K ρ H (o.bind f) Q) : ∃ x s, o = .ok x s ∧ OkB K ρ H (f x s) Q := by
  cases o with
  | ok x s => exact ⟨x, s, rfl, h⟩
  | exc _ _ => exact h.elim
  | bad => exact h.elim
def OkA (K : PySem.W.Frag) (ρ : Rho) (H : Hp) (o : Out (List MV)) (Q : List V → Hp → Prop) : Prop := match o with
  | .ok ds st => ∀ ρ' vs H', Ext K ρ H ρ' H' → RS K H' ρ' st → RVs K H' ρ' ds vs → Q vs H'
  | _ => False
theorem OkA.mono {o : Out (List MV)} {Q : List V → Hp → Prop} (e : Ext K ρ H ρ' H') (h : OkA K ρ H o Q) : OkA K ρ' H' o Q := by
  cases o with
  | ok d st => exact fun ρ1 v H1 e1 r1 r2 => h ρ1 v H1 (e.trans e1) r1 r2
  | exc _ _ => exact h
  | bad => exact h
theorem okA_bind {α : Type} {o : Out α} {f : α → Store → Out (List MV)} {Q : List V → Hp → Prop} (h : OkA K ρ H (o.bind f) Q) : ∃ x s, o = .ok x s ∧ OkA K ρ H (f x s) Q := by
  cases o with
  | ok x s => exact ⟨x, s, rfl, h⟩
  | exc _ _ => exact h.elim
  | bad => exact h.elim
abbrev EV := Mini.Env → Store → Out MV
def tE (K : PySem.W.Frag) (ev : EV) : TE := fun σ H Q => ∃ ρ env st, RS K H ρ st ∧ RE K H ρ env σ ∧ OkE K ρ H (ev env st) Q
def tA (K : PySem.W.Frag) (ev : Mini.Env → Store → Out (List MV)) : TA := fun σ H Q => ∃ ρ env st, RS K H ρ st ∧ RE K H ρ env σ ∧ OkA K ρ H (ev env st) Q
def tT (K : PySem.W.Frag) (ev : Mini.Env → Store → Out Bool) : TT := fun σ H Q => ∃ ρ env st, RS K H ρ st ∧ RE K H ρ env σ ∧ OkB K ρ H (ev env st) Q
/-- run a part, go on -/
theorem tE.step {σ : L2.St} {ev : EV} {env : Mini.Env} {st : Store} {x : MV} {s : Store} {Q : VK} (rs : RS K H ρ st) (re : RE K H ρ env σ) (e : ev env st = .ok x s)
    (k : ∀ ρ1 v H1, Ext K ρ H ρ1 H1 → RS K H1 ρ1 s → RE K H1 ρ1 env σ → RV K H1 ρ1 x v → Q v H1) : tE K ev σ H Q := by
  refine ⟨ρ, env, st, rs, re, ?_⟩
  rw [e]
  exact fun ρ1 v H1 x1 r1 rv => k ρ1 v H1 x1 r1 (re.mono x1) rv
theorem tA.step {σ : L2.St} {ev : Mini.Env → Store → Out (List MV)} {env : Mini.Env} {st : Store} {x : List MV} {s : Store} {Q : List V → Hp → Prop} (rs : RS K H ρ st) (re : RE K H ρ env σ) (e : ev env st = .ok x s)
    (k : ∀ ρ1 v H1, Ext K ρ H ρ1 H1 → RS K H1 ρ1 s → RE K H1 ρ1 env σ → RVs K H1 ρ1 x v → Q v H1) : tA K ev σ H Q := by
  refine ⟨ρ, env, st, rs, re, ?_⟩
  rw [e]
  exact fun ρ1 v H1 x1 r1 rv => k ρ1 v H1 x1 r1 (re.mono x1) rv
theorem tT.step {σ : L2.St} {ev : Mini.Env → Store → Out Bool} {env : Mini.Env} {st : Store} {x : Bool} {s : Store} {Q : Bool → Hp → Prop} (rs : RS K H ρ st) (re : RE K H ρ env σ) (e : ev env st = .ok x s)
    (k : ∀ ρ1 H1, Ext K ρ H ρ1 H1 → RS K H1 ρ1 s → RE K H1 ρ1 env σ → Q x H1) : tT K ev σ H Q := by
  refine ⟨ρ, env, st, rs, re, ?_⟩
  rw [e]
  exact fun ρ1 H1 x1 r1 => k ρ1 H1 x1 r1 (re.mono x1)
end
section
variable {X : L2.Cx} {e a b c : Expr} {es : List Expr} {pos : Pos} {C : Mini.Cx}
theorem _root_.L2.PE.imp {t t' : TE} (h : PE X e t) (i : ∀ σ H Q, t' σ H Q → t σ H Q) : PE X e t' := ⟨fun pins s σ H Q I w => h.run pins s σ H Q I (i σ H Q w)⟩
theorem _root_.L2.PT.imp {t t' : TT} (h : PT X e t) (i : ∀ σ H Q, t' σ H Q → t σ H Q) : PT X e t' := ⟨fun pins s σ H Q I w => h.run pins s σ H Q I (i σ H Q w)⟩
theorem _root_.L2.PW.imp {t t' : TT} (h : PW X e t) (i : ∀ σ H Q, t' σ H Q → t σ H Q) : PW X e t' := ⟨fun wh pins s σ H Q I w => h.run wh pins s σ H Q I (i σ H Q w)⟩
theorem _root_.L2.PA.imp {t t' : TA} (h : PA X es t) (i : ∀ σ H Q, t' σ H Q → t σ H Q) : PA X es t' := ⟨fun pos pins s σ H Q I w => h.run pos pins s σ H Q I (i σ H Q w)⟩
abbrev eE (C : Mini.Cx) (m : Mini.ME) : EV := Mini.evE C m
theorem m_var {i : Nat} {x : Str} (hN : X.N[i]? = some x) (hv : Vis X.env.scope x) (hd : (x == ("__debug__" : Str)) = false) (hcd : (x == ("__classdict__" : Str)) = false) : PE X (.Name x pos) (tE X.K (Mini.evE C (.var i))) := by
  refine (pe_var hN hv hd hcd).imp fun σ H Q h => ?_
  obtain ⟨ρ, env, st, rs, re, h⟩ := h
  simp only [Mini.evE] at h
  split at h
  · rename_i v hv
    obtain ⟨w, h1, h2⟩ := re.2 i v hv
    exact ⟨w, h1, h ρ w H .refl rs h2⟩
  · exact h.elim
theorem m_int {i : Int} {k : Nat} : PE X (.Constant (.int i) k pos) (tE X.K (Mini.evE C (.con (.int i)))) := pe_int.imp fun σ H Q h => by
  obtain ⟨ρ, env, st, rs, re, h⟩ := h
  simp only [Mini.evE] at h
  exact h ρ _ H .refl rs (.int i)
theorem m_bl {i : Bool} {k : Nat} : PE X (.Constant (.bool i) k pos) (tE X.K (Mini.evE C (.con (.bl i)))) := pe_bl.imp fun σ H Q h => by
  obtain ⟨ρ, env, st, rs, re, h⟩ := h
  simp only [Mini.evE] at h
  exact h ρ _ H .refl rs (.bl i)
theorem m_non {k : Nat} : PE X (.Constant .none k pos) (tE X.K (Mini.evE C (.con .non))) := pe_non.imp fun σ H Q h => by
  obtain ⟨ρ, env, st, rs, re, h⟩ := h
  simp only [Mini.evE] at h
  exact h ρ _ H .refl rs .non
theorem m_str {x : Str} {k : Nat} : PE X (.Constant (.str x) k pos) (tE X.K (Mini.evE C (.con (.str x.cps.toList)))) := pe_str.imp fun σ H Q h => by
  obtain ⟨ρ, env, st, rs, re, h⟩ := h
  simp only [Mini.evE] at h
  exact h ρ _ H .refl rs (.str rfl)
/-- two operands, then an operation by values -/
theorem tE.two {K : PySem.W.Frag} {ev1 ev2 : EV} {o : Store → MV → MV → Out MV} {σ : L2.St} {H : Hp} {Q : VK} (h : tE K (fun env st => (ev1 env st).bind fun x s1 => (ev2 env s1).bind fun y s2 => o s2 x y) σ H Q) : tOp (R2o K o) (tE K ev1) (tE K ev2) σ H Q := by
  obtain ⟨ρ, env, st, rs, re, h⟩ := h
  obtain ⟨x, s1, e1, h⟩ := okE_bind h
  refine tE.step rs re e1 fun ρ1 v H1 x1 rs1 re1 rv => ?_
  obtain ⟨y, s2, e2, h⟩ := okE_bind h
  refine tE.step rs1 re1 e2 fun ρ2 w H2 x2 rs2 re2 rw' => ?_
  exact ⟨ρ2, s2, x, y, rs2, rv.mono x2, rw', h.mono (x1.trans x2)⟩
theorem m_bin {op : Operator} {o : Mini.Op2} {ma mb : Mini.ME} (ho : OpR X (binaryOp op) (R2o X.K fun st x y => Mini.op2 o x y st)) (ha : PE X a (tE X.K (Mini.evE C ma))) (hb : PE X b (tE X.K (Mini.evE C mb))) : PE X (.BinOp a op b pos) (tE X.K (Mini.evE C (.op2 o ma mb))) :=
  (pe_op ho ha hb).imp fun σ H Q h => tE.two (by simpa only [tE, Mini.evE] using h)
theorem m_cmp {op : CmpOp} {o : Mini.Op2} {ma mb : Mini.ME} (ho : OpR X (compareOp op) (R2o X.K fun st x y => Mini.op2 o x y st)) (ha : PE X a (tE X.K (Mini.evE C ma))) (hb : PE X b (tE X.K (Mini.evE C mb))) (hm : behindInMarks op b = false) :
    PE X (.Compare a [op] [b] pos) (tE X.K (Mini.evE C (.op2 o ma mb))) :=
  (pe_cmpR ho ha hb hm).imp fun σ H Q h => tE.two (by simpa only [tE, Mini.evE] using h)
/-! ### truth -/
theorem truth_ok {K : PySem.W.Frag} {ρ : Rho} {H : Hp} {st : Store} {x : MV} {v : V} {Q : Bool → Hp → Prop} (rs : RS K H ρ st) (rv : RV K H ρ x v) (h : OkB K ρ H (Mini.truth st x) Q) : ∃ k, TruV K v H k ∧ Q k H := by
  have g : ∀ {k : Bool}, Mini.truth st x = .ok k st → Q k H := fun {k} e => by
    rw [e] at h
    exact h ρ H .refl rs
  cases rv with
  | non => exact ⟨false, rfl, g rfl⟩
  | bl b => exact ⟨b, rfl, g rfl⟩
  | int i => exact ⟨_, rfl, g rfl⟩
  | str e =>
    rename_i l z
    subst e
    simp only [Mini.truth] at h
    split at h
    · rename_i hl
      refine ⟨_, ⟨?_, rfl⟩, ?_⟩
      · have : z.length = z.cps.toList.length := by simp [Str.length]
        rw [this]
        exact Nat.le_trans hl (by decide)
      · have q := h ρ H .refl rs
        have e : (!z.cps.toList.isEmpty) = ((z.length : Int) != 0) := by
          have : z.length = z.cps.toList.length := by simp [Str.length]
          rw [this]
          cases z.cps.toList with
          | nil => rfl
          | cons y r =>
            symm
            simp only [List.length_cons, List.isEmpty_cons, Bool.not_false, bne_iff_ne, ne_eq]
            omega
        rw [e] at q
        exact q
    · exact h.elim
  | loc h1 =>
    rename_i n a
    simp only [Mini.truth] at h
    split at h
    · rename_i l e
      obtain ⟨xs, h2, h3⟩ := rs.getL e h1
      refine ⟨_, .inl ⟨xs, h2, rfl⟩, ?_⟩
      have q := h ρ H .refl rs
      have e2 : l.isEmpty = xs.isEmpty := by cases h3 <;> rfl
      rw [e2] at q
      exact q
    · exact h.elim
  | tup h1 h2 =>
    rename_i a xs ds
    refine ⟨_, .inr (.inl ⟨xs, h1, rfl⟩), ?_⟩
    have q := g (k := !ds.isEmpty) rfl
    have e2 : ds.isEmpty = xs.isEmpty := by cases h2 <;> rfl
    rw [e2] at q
    exact q
/-- a value's truth as a test -/
theorem m_tru {m : Mini.ME} (ha : PE X a (tE X.K (Mini.evE C m))) (he : ∀ whole, isTrue a X.env whole = (do let v ← whole; standAt a.pos; holding [v] (truthy v))) :
    PT X a (tT X.K fun env st => (Mini.evE C m env st).bind fun z s => Mini.truth s z) := by
  refine (pt_truth ha he).imp fun σ H Q h => ?_
  obtain ⟨ρ, env, st, rs, re, h⟩ := h
  obtain ⟨x, s1, e1, h⟩ := okB_bind h
  exact tE.step rs re e1 fun ρ1 v H1 x1 rs1 re1 rv => truth_ok rs1 rv (h.mono x1)
theorem m_tcmp {op : CmpOp} {o : Mini.Op2} {ma mb : Mini.ME} (ho : OpR X (compareOp op) (R2o X.K fun st x y => Mini.op2 o x y st)) (ha : PE X a (tE X.K (Mini.evE C ma))) (hb : PE X b (tE X.K (Mini.evE C mb))) (hm : behindInMarks op b = false)
    (hbl : ∀ x y st, (∃ k s, Mini.op2 o x y st = .ok (.bl k) s) ∨ Mini.op2 o x y st = .bad) :
    PT X (.Compare a [op] [b] pos) (tT X.K (Mini.tst C (.op2 o ma mb))) := by
  refine (pt_cmpR ho ha hb hm).imp fun σ H Q h => ?_
  obtain ⟨ρ, env, st, rs, re, h⟩ := h
  simp only [Mini.tst] at h
  obtain ⟨x, s1, e1, h⟩ := okB_bind h
  refine tE.step rs re e1 fun ρ1 v H1 x1 rs1 re1 rv => ?_
  obtain ⟨y, s2, e2, h⟩ := okB_bind h
  refine tE.step rs1 re1 e2 fun ρ2 w H2 x2 rs2 re2 rw' => ?_
  refine ⟨ρ2, s2, x, y, rs2, rv.mono x2, rw', ?_⟩
  rcases hbl x y s2 with ⟨k, s3, e⟩ | e
  · rw [e] at h
    show OkE X.K ρ2 H2 (Mini.op2 o x y s2) _
    rw [e]
    intro ρ3 u H3 x3 rs3 ru
    cases ru
    exact ⟨k, rfl, h ρ3 H3 ((x1.trans x2).trans x3) rs3⟩
  · rw [e] at h
    exact h.elim
theorem m_and {ma mb : Mini.ME} {rest : List Expr} (ha : PE X a (tE X.K (Mini.evE C ma))) (hb : PE X (.BoolOp .And (b :: rest) pos) (tE X.K (Mini.evE C mb))) : PE X (.BoolOp .And (a :: b :: rest) pos) (tE X.K (Mini.evE C (.and ma mb))) := by
  refine (pe_and ha hb).imp fun σ H Q h => ?_
  obtain ⟨ρ, env, st, rs, re, h⟩ := h
  simp only [Mini.evE] at h
  obtain ⟨x, s1, e1, h⟩ := okE_bind h
  refine tE.step rs re e1 fun ρ1 v H1 x1 rs1 re1 rv => ?_
  obtain ⟨k, s2, e2, h⟩ := okE_bind h
  unfold Mini.asB at e2
  split at e2
  · cases e2
    cases rv
    refine ⟨_, rfl, ?_⟩
    split at h
    · rename_i hk
      rw [if_pos hk]
      exact ⟨ρ1, env, s1, rs1, re1, h.mono x1⟩
    · rename_i hk
      rw [if_neg hk]
      exact h ρ1 _ H1 x1 rs1 (.bl false)
  · cases e2
theorem m_or {ma mb : Mini.ME} {rest : List Expr} (ha : PE X a (tE X.K (Mini.evE C ma))) (hb : PE X (.BoolOp .Or (b :: rest) pos) (tE X.K (Mini.evE C mb))) : PE X (.BoolOp .Or (a :: b :: rest) pos) (tE X.K (Mini.evE C (.or ma mb))) := by
  refine (pe_or ha hb).imp fun σ H Q h => ?_
  obtain ⟨ρ, env, st, rs, re, h⟩ := h
  simp only [Mini.evE] at h
  obtain ⟨x, s1, e1, h⟩ := okE_bind h
  refine tE.step rs re e1 fun ρ1 v H1 x1 rs1 re1 rv => ?_
  obtain ⟨k, s2, e2, h⟩ := okE_bind h
  unfold Mini.asB at e2
  split at e2
  · cases e2
    cases rv
    refine ⟨_, rfl, ?_⟩
    split at h
    · rename_i hk
      rw [if_pos hk]
      exact h ρ1 _ H1 x1 rs1 (.bl true)
    · rename_i hk
      rw [if_neg hk]
      exact ⟨ρ1, env, s1, rs1, re1, h.mono x1⟩
  · cases e2
theorem m_not {m : Mini.ME} (ha : PE X a (tE X.K (Mini.evE C m))) : PE X (.UnaryOp .Not a pos) (tE X.K (Mini.evE C (.nt m))) := by
  refine ⟨fun pins s σ H Q I h => ?_⟩
  obtain ⟨ρ, env, st, rs, re, h⟩ := h
  simp only [Mini.evE] at h
  obtain ⟨x, s1, e1, h⟩ := okE_bind h
  have hh : tE X.K (Mini.evE C m) σ H (fun v H1 => ∃ k, TruV X.K v H1 k ∧ Q (.bl (!k)) H1) := tE.step rs re e1 fun ρ1 v H1 x1 rs1 re1 rv => by
    obtain ⟨k, s2, e2, h⟩ := okE_bind h
    have g : OkB X.K ρ1 H1 (Mini.truth s1 x) (fun k H' => Q (.bl (!k)) H') := by
      rw [e2]
      exact fun ρ2 H2 x2 rs2 => h ρ2 _ H2 (x1.trans x2) rs2 (.bl _)
    exact truth_ok rs1 rv g
  refine UnaryOp_ (thn (ha.run pins s σ H _ I hh) fun v s1 ⟨y, H1, I1, r1, q1⟩ => ?_)
  exact not_of (thn (tru_ok pins s1 σ H1 y v (fun k H' => Q (.bl (!k)) H') I1 r1 q1) fun k s2 ⟨H2, I2, q2⟩ => ⟨.bl (!k), H2, I2, rfl, q2⟩)
theorem m_ite {mc ma mb : Mini.ME} (hc : PT X c (tT X.K (Mini.tst C mc))) (ha : PE X a (tE X.K (Mini.evE C ma))) (hb : PE X b (tE X.K (Mini.evE C mb))) : PE X (.IfExp c a b pos) (tE X.K (Mini.evE C (.ite mc ma mb))) := by
  refine (pe_ifExp hc ha hb).imp fun σ H Q h => ?_
  obtain ⟨ρ, env, st, rs, re, h⟩ := h
  simp only [Mini.evE] at h
  obtain ⟨k, s1, e1, h⟩ := okE_bind h
  refine tT.step rs re e1 fun ρ1 H1 x1 rs1 re1 => ?_
  split at h
  · rename_i hk
    rw [if_pos hk]
    exact ⟨ρ1, env, s1, rs1, re1, h.mono x1⟩
  · rename_i hk
    rw [if_neg hk]
    exact ⟨ρ1, env, s1, rs1, re1, h.mono x1⟩
/-! tests -/
theorem m_tand {ma mb : Mini.ME} {rest : List Expr} (ha : PT X a (tT X.K (Mini.tst C ma))) (hb : PW X (.BoolOp .And (b :: rest) pos) (tT X.K (Mini.tst C mb))) : PW X (.BoolOp .And (a :: b :: rest) pos) (tT X.K (Mini.tst C (.and ma mb))) := by
  refine (pw_and ha hb).imp fun σ H Q h => ?_
  obtain ⟨ρ, env, st, rs, re, h⟩ := h
  simp only [Mini.tst] at h
  obtain ⟨k, s1, e1, h⟩ := okB_bind h
  refine tT.step rs re e1 fun ρ1 H1 x1 rs1 re1 => ?_
  split at h
  · rename_i hk
    rw [if_pos hk]
    exact ⟨ρ1, env, s1, rs1, re1, h.mono x1⟩
  · rename_i hk
    rw [if_neg hk]
    exact h ρ1 H1 x1 rs1
theorem m_tor {ma mb : Mini.ME} {rest : List Expr} (ha : PT X a (tT X.K (Mini.tst C ma))) (hb : PW X (.BoolOp .Or (b :: rest) pos) (tT X.K (Mini.tst C mb))) : PW X (.BoolOp .Or (a :: b :: rest) pos) (tT X.K (Mini.tst C (.or ma mb))) := by
  refine (pw_or ha hb).imp fun σ H Q h => ?_
  obtain ⟨ρ, env, st, rs, re, h⟩ := h
  simp only [Mini.tst] at h
  obtain ⟨k, s1, e1, h⟩ := okB_bind h
  refine tT.step rs re e1 fun ρ1 H1 x1 rs1 re1 => ?_
  split at h
  · rename_i hk
    rw [if_pos hk]
    exact h ρ1 H1 x1 rs1
  · rename_i hk
    rw [if_neg hk]
    exact ⟨ρ1, env, s1, rs1, re1, h.mono x1⟩
theorem m_tnot {m : Mini.ME} (ha : PT X a (tT X.K (Mini.tst C m))) : PT X (.UnaryOp .Not a pos) (tT X.K (Mini.tst C (.nt m))) := by
  refine (pt_not ha).imp fun σ H Q h => ?_
  obtain ⟨ρ, env, st, rs, re, h⟩ := h
  simp only [Mini.tst] at h
  obtain ⟨k, s1, e1, h⟩ := okB_bind h
  exact tT.step rs re e1 fun ρ1 H1 x1 rs1 re1 => h ρ1 H1 x1 rs1
/-! arguments, displays -/
theorem m_nil : PA X [] (tA X.K (Mini.evEs C [])) := pa_nil.imp fun σ H Q h => by
  obtain ⟨ρ, env, st, rs, re, h⟩ := h
  simp only [Mini.evEs] at h
  exact h ρ [] H .refl rs .nil
theorem m_cons {m : Mini.ME} {ms : List Mini.ME} (ha : PE X a (tE X.K (Mini.evE C m))) (hr : PA X es (tA X.K (Mini.evEs C ms))) (hs : starEach (a :: es) X.env = (false, eval a X.env) :: starEach es X.env) : PA X (a :: es) (tA X.K (Mini.evEs C (m :: ms))) := by
  refine (pa_cons ha hr hs).imp fun σ H Q h => ?_
  obtain ⟨ρ, env, st, rs, re, h⟩ := h
  simp only [Mini.evEs] at h
  obtain ⟨x, s1, e1, h⟩ := okA_bind h
  refine tE.step rs re e1 fun ρ1 v H1 x1 rs1 re1 rv => ?_
  obtain ⟨xs, s2, e2, h⟩ := okA_bind h
  exact tA.step rs1 re1 e2 fun ρ2 vs H2 x2 rs2 re2 rvs => h ρ2 (v :: vs) H2 (x1.trans x2) rs2 (.cons (rv.mono x2) rvs)
theorem m_tup {ms : List Mini.ME} {k : Nat} (h : PA X es (tA X.K (Mini.evEs C ms))) : PE X (.Tuple es k pos) (tE X.K (Mini.evE C (.tup ms))) := by
  refine (pe_tup h).imp fun σ H Q h => ?_
  obtain ⟨ρ, env, st, rs, re, h⟩ := h
  simp only [Mini.evE] at h
  obtain ⟨vs, s1, e1, h⟩ := okE_bind h
  refine tA.step rs re e1 fun ρ1 us H1 x1 rs1 re1 rvs => ?_
  split at h
  · rename_i hl
    refine ⟨by rw [← rvs.length]; exact Nat.le_trans hl (by decide), fun p hp => ?_⟩
    exact h ρ1 _ _ (x1.trans (ext_upd hp)) (rs1.upd_tup hp) (.tup (.inl (.inl upd_same)) (rvs.mono (ext_upd hp)))
  · exact h.elim
theorem m_lst {ms : List Mini.ME} (h : PA X es (tA X.K (Mini.evEs C ms))) : PE X (.List es pos) (tE X.K (Mini.evE C (.lst ms))) := by
  refine (pe_lst h).imp fun σ H Q h => ?_
  obtain ⟨ρ, env, st, rs, re, h⟩ := h
  simp only [Mini.evE] at h
  obtain ⟨vs, s1, e1, h⟩ := okE_bind h
  exact tA.step rs re e1 fun ρ1 us H1 x1 rs1 re1 rvs => OkE.newL (h.mono x1) rs1 rvs
/-! chains -/
theorem m_chain {op op' : CmpOp} {o p : Mini.Op2} {ma mb mc : Mini.ME} (ho : OpR X (compareOp op) (R2o X.K fun st x y => Mini.op2 o x y st)) (ho' : OpR X (compareOp op') (R2o X.K fun st x y => Mini.op2 p x y st))
    (ha : PE X a (tE X.K (Mini.evE C ma))) (hb : PE X b (tE X.K (Mini.evE C mb))) (hc : PE X c (tE X.K (Mini.evE C mc))) (hm : lastMarks [op, op'] [b, c] = false) :
    PE X (.Compare a [op, op'] [b, c] pos) (tE X.K (Mini.evE C (.chain o p ma mb mc))) := by
  refine (pe_chain ho ho' ha hb hc hm).imp fun σ H Q h => ?_
  obtain ⟨ρ, env, st, rs, re, h⟩ := h
  simp only [Mini.evE] at h
  obtain ⟨x, s1, e1, h⟩ := okE_bind h
  refine tE.step rs re e1 fun ρ1 v H1 x1 rs1 re1 rv => ?_
  obtain ⟨y, s2, e2, h⟩ := okE_bind h
  refine tE.step rs1 re1 e2 fun ρ2 w H2 x2 rs2 re2 rw' => ?_
  refine ⟨ρ2, s2, x, y, rs2, rv.mono x2, rw', ?_⟩
  obtain ⟨z, s3, e3, h⟩ := okE_bind h
  obtain ⟨k, s4, e4, h⟩ := okE_bind h
  show OkE X.K ρ2 H2 (Mini.op2 o x y s2) _
  rw [e3]
  intro ρ3 u H3 x3 rs3 ru
  unfold Mini.asB at e4
  split at e4
  · cases e4
    cases ru
    refine ⟨_, rfl, ?_⟩
    split at h
    · rename_i hk
      rw [if_pos hk]
      obtain ⟨q, s5, e5, h⟩ := okE_bind h
      refine tE.step rs3 (re2.mono x3) e5 fun ρ4 u2 H4 x4 rs4 re4 ru2 => ?_
      exact ⟨ρ4, s5, y, q, rs4, rw'.mono (x3.trans x4), ru2, h.mono ((x1.trans x2).trans (x3.trans x4))⟩
    · rename_i hk
      rw [if_neg hk]
      exact h ρ3 _ H3 ((x1.trans x2).trans x3) rs3 (.bl false)
  · cases e4
theorem m_tchain {op op' : CmpOp} {o p : Mini.Op2} {ma mb mc : Mini.ME} (ho : OpR X (compareOp op) (R2o X.K fun st x y => Mini.op2 o x y st)) (ho' : OpR X (compareOp op') (R2o X.K fun st x y => Mini.op2 p x y st))
    (ha : PE X a (tE X.K (Mini.evE C ma))) (hb : PE X b (tE X.K (Mini.evE C mb))) (hc : PE X c (tE X.K (Mini.evE C mc))) (hm : lastMarks [op, op'] [b, c] = false) :
    PT X (.Compare a [op, op'] [b, c] pos) (tT X.K (Mini.tst C (.chain o p ma mb mc))) := by
  refine (pt_chain ho ho' ha hb hc hm).imp fun σ H Q h => ?_
  obtain ⟨ρ, env, st, rs, re, h⟩ := h
  simp only [Mini.tst] at h
  obtain ⟨x, s1, e1, h⟩ := okB_bind h
  refine tE.step rs re e1 fun ρ1 v H1 x1 rs1 re1 rv => ?_
  obtain ⟨y, s2, e2, h⟩ := okB_bind h
  refine tE.step rs1 re1 e2 fun ρ2 w H2 x2 rs2 re2 rw' => ?_
  refine ⟨ρ2, s2, x, y, rs2, rv.mono x2, rw', ?_⟩
  obtain ⟨z, s3, e3, h⟩ := okB_bind h
  obtain ⟨k, s4, e4, h⟩ := okB_bind h
  show OkE X.K ρ2 H2 (Mini.op2 o x y s2) _
  rw [e3]
  intro ρ3 u H3 x3 rs3 ru
  unfold Mini.asB at e4
  split at e4
  · cases e4
    cases ru
    refine ⟨_, rfl, ?_⟩
    split at h
    · rename_i hk
      rw [if_pos hk]
      obtain ⟨q, s5, e5, h⟩ := okB_bind h
      refine tE.step rs3 (re2.mono x3) e5 fun ρ4 u2 H4 x4 rs4 re4 ru2 => ?_
      refine ⟨ρ4, s5, y, q, rs4, rw'.mono (x3.trans x4), ru2, ?_⟩
      obtain ⟨r, s6, e6, h⟩ := okB_bind h
      show OkE X.K ρ4 H4 (Mini.op2 p y q s5) _
      rw [e6]
      intro ρ5 u3 H5 x5 rs5 ru3
      cases r with
      | bl k2 =>
        cases ru3
        exact ⟨k2, rfl, h ρ5 H5 ((x1.trans x2).trans ((x3.trans x4).trans x5)) rs5⟩
      | _ => exact h.elim
    · rename_i hk
      rw [if_neg hk]
      exact ⟨false, rfl, h ρ3 H3 ((x1.trans x2).trans x3) rs3⟩
  · cases e4
end
end DS
end

section
set_option Elab.async false
set_option linter.all false
set_option maxRecDepth 100000
set_option maxHeartbeats 1000000
/-! DeepSound3: subscripts, slices, built-ins, methods. -/
namespace DS
open PySem PySem.Spec PyProof.Rows L2
open Mini (MV Cell Store Out)
section
variable {K : PySem.W.Frag} {ρ ρ' : Rho} {H H' : Hp}
theorem RVs.atI {ds : List MV} {xs : List V} {i : Int} {d : MV} (r : RVs K H ρ ds xs) (h : Mini.atI ds i = some d) : ∃ v, L2.atI xs i = some v ∧ RV K H ρ d v := by
  unfold Mini.atI at h
  cases e : Mini.ixN ds.length i with
  | none => rw [e] at h; cases h
  | some j =>
    rw [e] at h
    obtain ⟨v, h1, h2⟩ := r.get (i := j) h
    refine ⟨v, ?_, h2⟩
    have e2 : L2.ixN xs.length i = some j := by rw [← r.length]; exact e
    unfold L2.atI
    rw [e2]
    exact h1
/-! dicts -/
theorem RD.val {i : Int} {d : MV} : ∀ {kvs : List (Int × MV)} {xs : List (Key × V)}, RD K H ρ kvs xs → Mini.valD kvs i = some d → ∃ v, valV xs (Sum.inl i) = some v ∧ RV K H ρ d v
  | _, _, .nil, h => by cases h
  | (j, e) :: r, (_, v) :: s, .cons h t, g => by
    by_cases e2 : j = i
    · subst e2
      rw [valV_pos rfl]
      have : Mini.valD ((j, e) :: r) j = some e := by simp [Mini.valD]
      rw [this] at g
      cases g
      exact ⟨v, rfl, h⟩
    · have : Mini.valD ((j, e) :: r) i = Mini.valD r i := by simp [Mini.valD, e2]
      rw [this] at g
      rw [valV_neg (fun z => e2 (Sum.inl.inj z))]
      exact RD.val t g
theorem RD.none {i : Int} : ∀ {kvs : List (Int × MV)} {xs : List (Key × V)}, RD K H ρ kvs xs → (valV xs (Sum.inl i)).isSome = decide (i ∈ kvs.map (·.1))
  | _, _, .nil => rfl
  | (j, e) :: r, (_, v) :: s, .cons h t => by
    by_cases e2 : j = i
    · subst e2
      rw [valV_pos rfl]
      simp
    · rw [valV_neg (fun z => e2 (Sum.inl.inj z)), RD.none t]
      have e3 : ¬ i = j := fun z => e2 z.symm
      simp [e3]
theorem RD.any {i : Int} : ∀ {kvs : List (Int × MV)} {xs : List (Key × V)}, RD K H ρ kvs xs → (kvs.any fun p => decide (p.1 = i)) = xs.any fun p => decide (p.1 = Sum.inl i)
  | _, _, .nil => rfl
  | (j, e) :: r, (_, v) :: s, .cons h t => by
    rw [List.any_cons, List.any_cons, RD.any t]
    congr 1
    by_cases e2 : j = i
    · simp [e2]
    · have : ¬ (Sum.inl j : Key) = Sum.inl i := fun z => e2 (Sum.inl.inj z)
      simp [e2]
theorem RD.len : ∀ {kvs : List (Int × MV)} {xs : List (Key × V)}, RD K H ρ kvs xs → kvs.length = xs.length
  | _, _, .nil => rfl
  | _, _, .cons _ t => congrArg Nat.succ (RD.len t)
theorem RD.app {a b : List (Int × MV)} {v w : List (Key × V)} (h : RD K H ρ a v) (g : RD K H ρ b w) : RD K H ρ (a ++ b) (v ++ w) := by
  induction h with
  | nil => exact g
  | cons r _ ih => exact .cons r ih
theorem RD.maps {i : Int} {d : MV} {v : V} (rv : RV K H ρ d v) : ∀ {kvs : List (Int × MV)} {xs : List (Key × V)}, RD K H ρ kvs xs → RD K H ρ (kvs.map fun p => if p.1 = i then (p.1, d) else p) (xs.map fun p => if p.1 = Sum.inl i then (p.1, v) else p)
  | _, _, .nil => .nil
  | (j, e) :: r, (_, u) :: s, .cons h t => by
    rw [List.map_cons, List.map_cons]
    by_cases e2 : j = i
    · rw [if_pos e2, if_pos (by rw [e2])]
      exact .cons rv (RD.maps rv t)
    · rw [if_neg e2, if_neg (fun z => e2 (Sum.inl.inj z))]
      exact .cons h (RD.maps rv t)
theorem RD.put {i : Int} {d : MV} {v : V} (rv : RV K H ρ d v) {kvs : List (Int × MV)} {xs : List (Key × V)} (h : RD K H ρ kvs xs) : RD K H ρ (Mini.putD i d kvs) (putK xs (Sum.inl i) v) := by
  unfold Mini.putD putK
  rw [h.any]
  split
  · exact h.maps rv
  · exact h.app (.cons rv .nil)
theorem RS.getD {st : Store} {n : Nat} {l : List (Int × MV)} {a : Addr} (r : RS K H ρ st) (h : Mini.getD st n = some l) (ha : ρ[n]? = some a) : ∃ xs, Rd H a (.dK xs) ∧ RD K H ρ l xs := by
  unfold Mini.getD at h
  split at h
  · cases h
    rename_i h2
    obtain ⟨xs, h3, h4⟩ := r.cell n _ a h2 ha
    exact ⟨xs, .inl h3, h4⟩
  · cases h
    rename_i h2
    obtain ⟨o, xs, h3, h4⟩ := r.cell n _ a h2 ha
    exact ⟨xs, .inr ⟨o, h3⟩, h4⟩
  · cases h
end
section
variable {X : L2.Cx}
def rIxD : R2 := fun x y H Q => ∃ a v, x = .ref a ∧ DGet H a y (some v) ∧ Q v H
theorem ix_dct (hu : X.A.units + 1 < cLine) : IxR X rIxD := by
  intro value slice pins s σ H x y v u Q I rx ry h hs
  obtain ⟨a, z, rfl, g, q⟩ := h
  cases rx
  exact tail_any (dict_typeIs I g) PySem.F.slot_dict_getitem.lookup (d_getItem hu I g ry fun w' s3 I3 rw' => ⟨z, H, I3, rw', q⟩) hs
end
section
variable {X : L2.Cx} {e a b c : Expr} {es : List Expr} {pos : Pos} {C : Mini.Cx}
theorem d_ix (hu : X.A.units + 64 < cLine) : IxR X (R2o X.K fun st x y => Mini.op2 .ix x y st) := by
  intro value slice pins s σ H v w a b Q I ra rb h hs
  obtain ⟨ρ, st, x, y, rs, rx, ry, h⟩ := h
  simp only [Mini.op2] at h
  unfold Mini.opIx at h
  refine (ix_seq.or (ix_dct (by omega))) value slice pins s σ H v w a b Q I ra rb ?_ hs
  split at h
  · cases rx with
    | loc h1 =>
      cases ry
      split at h
      · rename_i e1
        obtain ⟨xs, h2, h3⟩ := rs.getL e1 h1
        split at h
        · rename_i e2
          obtain ⟨u, h4, h5⟩ := h3.atI e2
          exact .inl (.inl ⟨_, xs, _, u, rfl, rfl, h2, h4, h ρ u H .refl rs h5⟩)
        · exact h.elim
      · split at h
        · rename_i e2
          obtain ⟨kvs, e3, e4⟩ := Option.bind_eq_some_iff.mp e2
          obtain ⟨xs, h2, h3⟩ := rs.getD e3 h1
          obtain ⟨u, h4, h5⟩ := h3.val e4
          exact .inr ⟨_, u, rfl, .inl ⟨xs, _, h2, rfl, h4.symm⟩, h ρ u H .refl rs h5⟩
        · exact h.elim
  · cases rx with
    | tup h2 h3 =>
      cases ry
      split at h
      · rename_i e2
        obtain ⟨u, h4, h5⟩ := h3.atI e2
        exact .inl (.inr (.inl ⟨_, _, _, u, rfl, rfl, h2, h4, h ρ u H .refl rs h5⟩))
      · exact h.elim
  · exact h.elim
theorem m_ix {ma mb : Mini.ME} (hu : X.A.units + 64 < cLine) (ha : PE X a (tE X.K (Mini.evE C ma))) (hb : PE X b (tE X.K (Mini.evE C mb))) (hs : PlainIx b) : PE X (.Subscript a b pos) (tE X.K (Mini.evE C (.op2 .ix ma mb))) :=
  (pe_ix (d_ix hu) ha hb hs).imp fun σ H Q h => tE.two (by simpa only [tE, Mini.evE] using h)
theorem m_neg {m : Mini.ME} (ha : PE X a (tE X.K (Mini.evE C m))) : PE X (.UnaryOp .USub a pos) (tE X.K (Mini.evE C (.prim .neg [m]))) := by
  refine (pe_un un_neg ha).imp fun σ H Q h => ?_
  obtain ⟨ρ, env, st, rs, re, h⟩ := h
  simp only [Mini.evE, Mini.evEs] at h
  obtain ⟨vs, s1, e1, h⟩ := okE_bind h
  cases e0 : Mini.evE C m env st with
  | exc _ _ => rw [e0] at e1; cases e1
  | bad => rw [e0] at e1; cases e1
  | ok x s =>
    rw [e0] at e1
    cases e1
    refine tE.step rs re e0 fun ρ1 v H1 x1 rs1 re1 rv => ?_
    cases x with
    | int i =>
      cases rv
      exact ⟨i, rfl, h ρ1 _ H1 x1 rs1 (.int _)⟩
    | _ => exact h.elim
/-! ### reverse, slices -/
theorem m_rev {m : Mini.ME} {k : Nat} {p1 p2 p3 : Pos} (ha : PE X a (tE X.K (Mini.evE C m))) : PE X (.Subscript a (.Slice none none (some (.UnaryOp .USub (.Constant (.int 1) k p1) p2)) p3) pos) (tE X.K (Mini.evE C (.rev m))) := by
  refine (pe_revL ha).imp fun σ H Q h => ?_
  obtain ⟨ρ, env, st, rs, re, h⟩ := h
  simp only [Mini.evE] at h
  obtain ⟨x, s1, e1, h⟩ := okE_bind h
  refine tE.step rs re e1 fun ρ1 v H1 x1 rs1 re1 rv => ?_
  split at h
  · split at h
    · rename_i e2
      cases rv with
      | loc h1 =>
        obtain ⟨xs, h2, h3⟩ := rs1.getL e2 h1
        refine ⟨_, xs, rfl, h2, fun p hp => ?_⟩
        refine h (ρ1 ++ [p]) _ _ (x1.trans (ext_new hp)) (rs1.new hp h3.reverse) (.loc ?_)
        rw [← rs1.len]
        simp
    · exact h.elim
  · exact h.elim
theorem sIx_eq {n d k : Nat} {x : MV} {v : V} {K : PySem.W.Frag} {ρ : Rho} {H : Hp} (rx : RV K H ρ x v) (h : Mini.sIx n d x = some k) : (v = .non ∧ HT.sIx n d none = k) ∨ ∃ i, v = .int i ∧ HT.sIx n d (some i) = k := by
  unfold Mini.sIx at h
  split at h
  · cases h; cases rx; exact .inl ⟨rfl, rfl⟩
  · cases h; cases rx; exact .inr ⟨_, rfl, rfl⟩
  · cases h
/-- both kinds of slices, by values -/
def rSlU (K : PySem.W.Frag) : V → Option Int → Option Int → Hp → VK → Prop := fun x lo hi H Q => rSlL K x lo hi H Q ∨ rSlT K x lo hi H Q
theorem sl_u : SlR X (rSlU X.K) := by
  intro pins s σ H x v vl vu lo hi sl Q I rx hs pl pu h
  rcases h with h | h
  · exact sl_list pins s σ H x v vl vu lo hi sl Q I rx hs pl pu h
  · exact sl_tup pins s σ H x v vl vu lo hi sl Q I rx hs pl pu h
def oV : Option Int → V
  | none => .non
  | some i => .int i
/-- a bound's reading: an int, or none where it is left out -/
structure PB (X : L2.Cx) (e : Option Expr) (fl : Bool) (ev : EV) : Prop where
  ok : ∃ t : TO, PO X e t ∧ ∀ (σ : L2.St) (H : Hp) (Q : Option Int → Hp → Prop) (ρ : Rho) (env : Mini.Env) (st : Store) (x : MV) (s : Store), RS X.K H ρ st → RE X.K H ρ env σ → ev env st = .ok x s → Mini.bOk fl x = true →
    (∀ ρ1 H1 o, Ext X.K ρ H ρ1 H1 → RS X.K H1 ρ1 s → RV X.K H1 ρ1 x (oV o) → Q o H1) → t σ H Q
theorem m_b0 : PB X none false (Mini.evE C (.con .non)) := ⟨tNoPart, po_none, fun σ H Q ρ env st x s rs re e _ k => by
  simp only [Mini.evE] at e
  cases e
  exact k ρ H none .refl rs .non⟩
theorem m_b1 {m : Mini.ME} (ha : PE X a (tE X.K (Mini.evE C m))) : PB X (some a) true (Mini.evE C m) := ⟨tPart (tE X.K (Mini.evE C m)), po_some ha, fun σ H Q ρ env st x s rs re e hx k => by
  refine tE.step rs re e fun ρ1 v H1 x1 rs1 re1 rv => ?_
  cases x with
  | int i =>
    cases rv
    exact ⟨i, rfl, k ρ1 H1 (some i) x1 rs1 (.int i)⟩
  | _ => cases hx⟩
theorem cut_rel {K : PySem.W.Frag} {ρ : Rho} {H : Hp} {l : List MV} {xs : List V} (r : RVs K H ρ l xs) (i j : Nat) : RVs K H ρ (Mini.cut l i j) ((xs.drop i).take (j - i)) := (r.drop i).take (j - i)
theorem oV_sIx {n d k : Nat} {x : MV} {o : Option Int} {K : PySem.W.Frag} {ρ : Rho} {H : Hp} (rx : RV K H ρ x (oV o)) (h : Mini.sIx n d x = some k) : HT.sIx n d o = k := by
  rcases sIx_eq rx h with ⟨e1, e2⟩ | ⟨i, e1, e2⟩
  · cases o with
    | none => exact e2
    | some i => cases e1
  · cases o with
    | none => cases e1
    | some i => cases e1; exact e2
theorem m_sl {m ml mh : Mini.ME} {lo hi : Option Expr} {fl fh : Bool} {p2 : Pos} (ha : PE X a (tE X.K (Mini.evE C m))) (hl : PB X lo fl (Mini.evE C ml)) (hh : PB X hi fh (Mini.evE C mh)) : PE X (.Subscript a (.Slice lo hi none p2) pos) (tE X.K (Mini.evE C (.sl fl fh m ml mh))) := by
  obtain ⟨tl, pl, kl⟩ := hl.ok
  obtain ⟨th, ph, kh⟩ := hh.ok
  refine (pe_slice sl_u ha pl ph).imp fun σ H Q h => ?_
  obtain ⟨ρ, env, st, rs, re, h⟩ := h
  simp only [Mini.evE] at h
  obtain ⟨x, s1, e1, h⟩ := okE_bind h
  obtain ⟨y, s2, e2, h⟩ := okE_bind h
  obtain ⟨z, s3, e3, h⟩ := okE_bind h
  refine tE.step rs re e1 fun ρ1 v H1 x1 rs1 re1 rv => ?_
  -- the bounds are ints or left out
  unfold Mini.slice at h
  split at h
  rotate_left
  · exact h.elim
  rename_i hb
  rw [Bool.and_eq_true] at hb
  refine kl σ H1 _ ρ1 env s1 y s2 rs1 re1 e2 hb.1 fun ρ2 H2 o2 x2 rs2 ry => ?_
  refine kh σ H2 _ ρ2 env s2 z s3 rs2 (re1.mono x2) e3 hb.2 fun ρ3 H3 o3 x3 rs3 rz => ?_
  have rv3 := rv.mono (x2.trans x3)
  have ry3 := ry.mono x3
  have x13 := x1.trans (x2.trans x3)
  split at h
  · split at h
    · rename_i e4
      cases rv3 with
      | loc h1 =>
        obtain ⟨xs, h2, h3⟩ := rs3.getL e4 h1
        split at h
        · rename_i q1 q2
          refine .inl ⟨_, xs, rfl, h2, fun p hp => ?_⟩
          refine h (ρ3 ++ [p]) _ _ (x13.trans (ext_new hp)) (rs3.new hp ?_) (.loc (by rw [← rs3.len]; simp))
          unfold cutV
          have l1 := oV_sIx ry3 q1
          have l2 := oV_sIx rz q2
          rw [h3.length] at l1 l2
          rw [l1, l2]
          exact cut_rel h3 _ _
        · exact h.elim
    · exact h.elim
  · cases rv3 with
    | tup h2 h3 =>
      split at h
      · rename_i q1 q2
        split at h
        · exact h.elim
        · rename_i hne
          have l1 := oV_sIx ry3 q1
          have l2 := oV_sIx rz q2
          have hlen := h3.length
          rw [hlen] at l1 l2
          refine .inr ⟨_, _, rfl, h2, ?_, fun p hp => ?_⟩
          · rw [l1, l2]
            intro z
            exact hne ⟨z.1, by rw [hlen]; exact z.2⟩
          · refine h ρ3 _ _ (x13.trans (ext_upd hp)) (rs3.upd_tup hp) (.tup (.inl (.inl upd_same)) ?_)
            unfold cutV
            rw [l1, l2]
            exact (cut_rel h3 _ _).mono (ext_upd hp)
      · exact h.elim
  · exact h.elim
/-! ### built-ins -/
def RPo (K : PySem.W.Frag) (C : Mini.Cx) (p : Mini.Prim) : List V → Hp → VK → Prop := fun vs H Q => ∃ ρ st ds, RS K H ρ st ∧ RVs K H ρ ds vs ∧ OkE K ρ H (Mini.prim C p ds st) Q
theorem m_prim {p : Mini.Prim} {x : Str} {px : Pos} {ms : List Mini.ME} {r : List V → Hp → VK → Prop} (hc : PE X (.Call (.Name x px) es [] pos) (tCB r (tA X.K (Mini.evEs C ms)))) (hr : ∀ vs H Q, RPo X.K C p vs H Q → r vs H Q) :
    PE X (.Call (.Name x px) es [] pos) (tE X.K (Mini.evE C (.prim p ms))) := hc.imp fun σ H Q h => by
  obtain ⟨ρ, env, st, rs, re, h⟩ := h
  simp only [Mini.evE] at h
  obtain ⟨vs, s1, e1, h⟩ := okE_bind h
  exact tA.step rs re e1 fun ρ1 us H1 x1 rs1 re1 rvs => hr us H1 Q ⟨ρ1, s1, vs, rs1, rvs, h.mono x1⟩
theorem p_len {vs : List V} {H : Hp} {Q : VK} (h : RPo X.K C .len vs H Q) : (∃ p ys, vs = [.ref p] ∧ (SqL X.K H p ys ∨ SqT X.K H p ys) ∧ Q (.int ys.length) H) ∨ ∃ p kvs, vs = [.ref p] ∧ Rd H p (.dK kvs) ∧ Q (.int kvs.length) H := by
  obtain ⟨ρ, st, ds, rs, rv, h⟩ := h
  unfold Mini.prim at h
  split at h <;> first | contradiction | skip
  · cases rv with
    | cons r1 r2 =>
      cases r2
      cases r1 with
      | loc h1 =>
        split at h
        · rename_i l e
          obtain ⟨xs, h2, h3⟩ := rs.getL e h1
          refine .inl ⟨_, xs, rfl, .inl h2, ?_⟩
          rw [h3.length] at h
          exact okE_int rs h
        · split at h
          · rename_i l e
            obtain ⟨xs, h2, h3⟩ := rs.getD e h1
            refine .inr ⟨_, xs, rfl, h2, ?_⟩
            rw [h3.len] at h
            exact okE_int rs h
          · exact h.elim
  · cases rv with
    | cons r1 r2 =>
      cases r2
      cases r1 with
      | tup h2 h3 =>
        refine .inl ⟨_, _, rfl, .inr h2, ?_⟩
        rw [h3.length] at h
        exact okE_int rs h
theorem p_list {vs : List V} {H : Hp} {Q : VK} (h : RPo X.K C .list vs H Q) : ∃ p ys, vs = [.ref p] ∧ (SqL X.K H p ys ∨ SqT X.K H p ys) ∧ ∀ l, H l = none → Q (.ref l) (upd H l (.lst ys)) := by
  obtain ⟨ρ, st, ds, rs, rv, h⟩ := h
  unfold Mini.prim at h
  split at h <;> first | contradiction | skip
  · cases rv with
    | cons r1 r2 =>
      cases r2
      cases r1 with
      | loc h1 =>
        split at h
        · rename_i l e
          obtain ⟨xs, h2, h3⟩ := rs.getL e h1
          exact ⟨_, xs, rfl, .inl h2, (OkE.newL h rs h3).2⟩
        · exact h.elim
  · cases rv with
    | cons r1 r2 =>
      cases r2
      cases r1 with
      | tup h2 h3 => exact ⟨_, _, rfl, .inr h2, (OkE.newL h rs h3).2⟩
theorem p_abs {vs : List V} {H : Hp} {Q : VK} (h : RPo X.K C .abs vs H Q) : ∃ i, vs = [.int i] ∧ Q (.int (if i < 0 then -i else i)) H := by
  obtain ⟨ρ, st, ds, rs, rv, h⟩ := h
  unfold Mini.prim at h
  split at h <;> first | contradiction | skip
  · cases rv with
    | cons r1 r2 =>
      cases r2
      cases r1
      exact ⟨_, rfl, okE_int rs h⟩
theorem p_int {vs : List V} {H : Hp} {Q : VK} (h : RPo X.K C .int vs H Q) : (∃ i, vs = [.int i] ∧ Q (.int i) H) ∨ ∃ k, vs = [.bl k] ∧ Q (.int (if k then 1 else 0)) H := by
  obtain ⟨ρ, st, ds, rs, rv, h⟩ := h
  unfold Mini.prim at h
  split at h <;> first | contradiction | skip
  · cases rv with
    | cons r1 r2 =>
      cases r2
      cases r1
      exact .inl ⟨_, rfl, okE_int rs h⟩
  · cases rv with
    | cons r1 r2 =>
      cases r2
      cases r1
      exact .inr ⟨_, rfl, okE_int rs h⟩
theorem p_max2 {vs : List V} {H : Hp} {Q : VK} (h : RPo X.K C .max2 vs H Q) : ∃ i j, vs = [.int i, .int j] ∧ Q (.int (if j > i then j else i)) H := by
  obtain ⟨ρ, st, ds, rs, rv, h⟩ := h
  unfold Mini.prim at h
  split at h <;> first | contradiction | skip
  · cases rv with
    | cons r1 r2 =>
      cases r2 with
      | cons r3 r4 =>
        cases r4; cases r3; cases r1
        exact ⟨_, _, rfl, okE_int rs h⟩
theorem p_min2 {vs : List V} {H : Hp} {Q : VK} (h : RPo X.K C .min2 vs H Q) : ∃ i j, vs = [.int i, .int j] ∧ Q (.int (if j < i then j else i)) H := by
  obtain ⟨ρ, st, ds, rs, rv, h⟩ := h
  unfold Mini.prim at h
  split at h <;> first | contradiction | skip
  · cases rv with
    | cons r1 r2 =>
      cases r2 with
      | cons r3 r4 =>
        cases r4; cases r3; cases r1
        exact ⟨_, _, rfl, okE_int rs h⟩
theorem allInts_rel {K : PySem.W.Frag} {ρ : Rho} {H : Hp} : ∀ {l : List MV} {ns : List Int} {xs : List V}, Mini.allInts l = some ns → RVs K H ρ l xs → xs = ns.map V.int
  | [], _, _, h, r => by cases h; cases r; rfl
  | .int i :: l, ns, xs, h, r => by
    cases e : Mini.allInts l with
    | none => simp [Mini.allInts, e] at h
    | some ms =>
      simp [Mini.allInts, e] at h
      subst h
      cases r with
      | cons r1 r2 =>
        cases r1
        rw [allInts_rel e r2] <;> rfl
  | .non :: _, _, _, h, _ => by simp [Mini.allInts] at h
  | .bl _ :: _, _, _, h, _ => by simp [Mini.allInts] at h
  | .str _ :: _, _, _, h, _ => by simp [Mini.allInts] at h
  | .tup _ :: _, _, _, h, _ => by simp [Mini.allInts] at h
  | .loc _ :: _, _, _, h, _ => by simp [Mini.allInts] at h
  | .lst _ :: _, _, _, h, _ => by simp [Mini.allInts] at h
theorem minL_le : ∀ (l : List Int) (m : Int), Mini.minL m l ≤ m ∧ (∀ y ∈ l, Mini.minL m l ≤ y) ∧ (Mini.minL m l = m ∨ Mini.minL m l ∈ l)
  | [], m => by simp [Mini.minL]
  | j :: r, m => by
    by_cases hj : j < m
    · obtain ⟨h1, h2, h3⟩ := minL_le r j
      simp only [Mini.minL, if_pos hj]
      refine ⟨by omega, fun y hy => ?_, ?_⟩
      · rcases List.mem_cons.mp hy with e | hy
        · rw [e]; exact h1
        · exact h2 y hy
      · rcases h3 with h3 | h3
        · rw [h3]; exact Or.inr List.mem_cons_self
        · exact Or.inr (List.mem_cons_of_mem _ h3)
    · obtain ⟨h1, h2, h3⟩ := minL_le r m
      simp only [Mini.minL, if_neg hj]
      refine ⟨h1, fun y hy => ?_, ?_⟩
      · rcases List.mem_cons.mp hy with e | hy
        · rw [e]; omega
        · exact h2 y hy
      · rcases h3 with h3 | h3
        · exact Or.inl h3
        · exact Or.inr (List.mem_cons_of_mem _ h3)
theorem p_min1 {vs : List V} {H : Hp} {Q : VK} (h : RPo X.K C .min1 vs H Q) : rMin X.K vs H Q := by
  obtain ⟨ρ, st, ds, rs, rv, h⟩ := h
  unfold Mini.prim at h
  split at h <;> first | contradiction | skip
  · cases rv with
    | cons r1 r2 =>
      cases r2
      cases r1 with
      | loc h1 =>
        split at h
        · rename_i x l e
          obtain ⟨l0, e1, e2⟩ := Option.bind_eq_some_iff.mp e
          obtain ⟨xs, h2, h3⟩ := rs.getL e1 h1
          have hx := allInts_rel e2 h3
          subst hx
          refine ⟨_, _, rfl, h2, by simp, fun m hm hle => ?_⟩
          obtain ⟨g1, g2, g3⟩ := minL_le l x
          have : m = Mini.minL x l := by
            have a1 : Mini.minL x l ≤ m := by
              rcases List.mem_cons.mp hm with rfl | hm
              · exact g1
              · exact g2 m hm
            have a2 : m ≤ Mini.minL x l := by
              rcases g3 with g3 | g3
              · rw [g3]; exact hle x List.mem_cons_self
              · exact hle _ (List.mem_cons_of_mem _ g3)
            omega
          rw [this]
          exact okE_int rs h
        · exact h.elim
/-! ### isinstance -/
theorem sqL_ty {K : PySem.W.Frag} {H : Hp} {a : Addr} {xs : List V} (h : SqL K H a xs) : TyX K H (.ref a) (.type "list") := by
  rcases h with (h | ⟨o, h⟩) | ⟨o, its, n, h1, h2, _⟩
  · exact .base (.lst h)
  · exact .base (.frz h)
  · exact .kList h1 h2
theorem sqT_ty {K : PySem.W.Frag} {H : Hp} {a : Addr} {xs : List V} (h : SqT K H a xs) : TyX K H (.ref a) (.type "tuple") := by
  rcases h with (h | ⟨o, h⟩) | ⟨o, its, n, h1, h2, _⟩
  · exact .base (.tup h)
  · exact .fTuple h
  · exact .kTuple h1 h2
/-- the type of a value -/
inductive Kd where
  | non | bl | int | str | tup | lst
def Kd.nm : Kd → String
  | .non => "NoneType" | .bl => "bool" | .int => "int" | .str => "str" | .tup => "tuple" | .lst => "list"
def kdOf (st : Store) : MV → Option Kd
  | .non => some .non
  | .bl _ => some .bl
  | .int _ => some .int
  | .str _ => some .str
  | .tup _ => some .tup
  | .loc n => (Mini.getL st n).map fun _ => .lst
  | .lst _ => none
theorem kd_ty {K : PySem.W.Frag} {ρ : Rho} {H : Hp} {st : Store} {x : MV} {v : V} {k : Kd} (rs : RS K H ρ st) (rv : RV K H ρ x v) (h : kdOf st x = some k) : TyX K H v (.type k.nm) := by
  cases rv with
  | non => cases h; exact .base .non
  | bl b => cases h; exact .base (.bl b)
  | int i => cases h; exact .base (.int i)
  | str e => cases h; exact .base (.str _)
  | loc h1 =>
    rename_i n a
    cases e : Mini.getL st n with
    | none => simp [kdOf, e] at h
    | some l =>
      simp [kdOf, e] at h
      subst h
      obtain ⟨xs, h2, _⟩ := rs.getL e h1
      exact sqL_ty h2
  | tup h1 h2 => cases h; exact sqT_ty h1
/-- isinstance(x, T) by the type's name -/
theorem p_isi {p : Mini.Prim} {T : String} {g : Kd → Bool} (hk : ∀ k : Kd, kitB k.nm T = some (g k)) (hp : ∀ x st, Mini.prim C p [x] st = match kdOf st x with | some k => .ok (.bl (g k)) st | none => .bad)
    {a : V} {H : Hp} {Q : VK} (h : ∃ ρ st x, RS X.K H ρ st ∧ RV X.K H ρ x a ∧ OkE X.K ρ H (Mini.prim C p [x] st) Q) : rIsi X.K [a, .ty T] H Q := by
  obtain ⟨ρ, st, x, rs, rx, h⟩ := h
  rw [hp] at h
  split at h
  · rename_i k e
    exact ⟨a, .ty T, .type k.nm, .type T, g k, rfl, .ty T, kd_ty rs rx e, kit_ty (hk k), okE_bl rs h⟩
  · exact h.elim
theorem hk_int : ∀ k : Kd, kitB k.nm "int" = some (match k with | .int => true | .bl => true | _ => false) := fun k => by cases k <;> decide +kernel
theorem hk_bool : ∀ k : Kd, kitB k.nm "bool" = some (match k with | .bl => true | _ => false) := fun k => by cases k <;> decide +kernel
theorem hk_str : ∀ k : Kd, kitB k.nm "str" = some (match k with | .str => true | _ => false) := fun k => by cases k <;> decide +kernel
theorem hk_tuple : ∀ k : Kd, kitB k.nm "tuple" = some (match k with | .tup => true | _ => false) := fun k => by cases k <;> decide +kernel
theorem hk_list : ∀ k : Kd, kitB k.nm "list" = some (match k with | .lst => true | _ => false) := fun k => by cases k <;> decide +kernel
theorem hp_loc {C : Mini.Cx} {p : Mini.Prim} {n : Nat} {st : Store} {b : Bool} (h : Mini.prim C p [.loc n] st = match Mini.getL st n with | some _ => .ok (.bl b) st | none => .bad) {g : Kd → Bool} (hg : g .lst = b) :
    Mini.prim C p [.loc n] st = match kdOf st (.loc n) with | some k => .ok (.bl (g k)) st | none => .bad := by
  rw [h]
  cases e : Mini.getL st n with
  | none => simp [kdOf, e]
  | some l => simp [kdOf, e, hg]
theorem m_isi {p : Mini.Prim} {T : String} {g : Kd → Bool} {m : Mini.ME} {px pt : Pos} {xT : Str} (hk : ∀ k : Kd, kitB k.nm T = some (g k)) (hp : ∀ x st, Mini.prim C p [x] st = match kdOf st x with | some k => .ok (.bl (g k)) st | none => .bad)
    (hgl : Gl X "isinstance") (hm : X.mg "isinstance" = none) (hT : Gl X xT) (hmT : X.mg xT = none) (hv : bootBuiltins xT = some (.type T)) (hnT : xT ≠ "__name__") (hdT : (xT == ("__debug__" : Str)) = false) (ha : PE X a (tE X.K (Mini.evE C m)))
    (hs : starEach [a, .Name xT pt] X.env = (false, eval a X.env) :: starEach [.Name xT pt] X.env) :
    PE X (.Call (.Name "isinstance" px) [a, .Name xT pt] [] pos) (tE X.K (Mini.evE C (.prim p [m]))) := by
  refine (pe_callB call_isi hgl hm (by decide +kernel) (pa_cons ha (pa_cons (pe_bltn (v := .ty T) hT hmT hv rfl hnT hdT) pa_nil) hs) (he := hs)).imp fun σ H Q h => ?_
  obtain ⟨ρ, env, st, rs, re, h⟩ := h
  simp only [Mini.evE, Mini.evEs] at h
  obtain ⟨vs, s1, e1, h⟩ := okE_bind h
  cases e0 : Mini.evE C m env st with
  | exc _ _ => rw [e0] at e1; cases e1
  | bad => rw [e0] at e1; cases e1
  | ok x s =>
    rw [e0] at e1
    cases e1
    exact tE.step rs re e0 fun ρ1 v H1 x1 rs1 re1 rv => p_isi hk hp ⟨ρ1, _, x, rs1, rv, h.mono x1⟩
theorem hp_int (x : MV) (st : Store) : Mini.prim C .isInt [x] st = match kdOf st x with | some k => .ok (.bl (match k with | .int => true | .bl => true | _ => false)) st | none => .bad := by
  cases x <;> first | rfl | exact hp_loc rfl rfl
theorem hp_bool (x : MV) (st : Store) : Mini.prim C .isBool [x] st = match kdOf st x with | some k => .ok (.bl (match k with | .bl => true | _ => false)) st | none => .bad := by
  cases x <;> first | rfl | exact hp_loc rfl rfl
theorem hp_str (x : MV) (st : Store) : Mini.prim C .isStr [x] st = match kdOf st x with | some k => .ok (.bl (match k with | .str => true | _ => false)) st | none => .bad := by
  cases x <;> first | rfl | exact hp_loc rfl rfl
theorem hp_tuple (x : MV) (st : Store) : Mini.prim C .isTuple [x] st = match kdOf st x with | some k => .ok (.bl (match k with | .tup => true | _ => false)) st | none => .bad := by
  cases x <;> first | rfl | exact hp_loc rfl rfl
theorem hp_list (x : MV) (st : Store) : Mini.prim C .isList [x] st = match kdOf st x with | some k => .ok (.bl (match k with | .lst => true | _ => false)) st | none => .bad := by
  cases x <;> first | rfl | exact hp_loc rfl rfl
/-! ### repr -/
def reprPy (d : MV) : List Nat := (PyData.shown (toPy d)).cps.toList
theorem okInt_len {x : MV} (h : Mini.okInt x = true) : (PyData.showable (toPy x) = true) ∧ (PyData.shown (toPy x)).length ≤ 70 ∧ (toPy x).hasDict = false ∧ (toPy x).depth ≤ 1 := by
  cases x with
  | int i =>
    have h' : i.natAbs < 10 ^ 60 := by simpa [Mini.okInt] using h
    refine ⟨?_, ?_, by simp [toPy, PyData.hasDict], by simp [toPy, PyData.depth]⟩
    · simp only [toPy, PyData.showable, decide_eq_true_eq]
      exact PySem.Flt.log2_lt_of (by decide) (Nat.lt_trans h' (by decide))
    · have e := int_text_length_le10 (a := i) (k := 60) (by decide) h'
      have : (PyData.shown (toPy (.int i))).length = (toString i).length := by
        simp only [toPy, PyData.shown]
        exact PySem.ofString_length _
      omega
  | bl b =>
    refine ⟨by simp [toPy, PyData.showable], ?_, by simp [toPy, PyData.hasDict], by simp [toPy, PyData.depth]⟩
    cases b
    · show (("False" : String) : Str).length ≤ 70
      decide
    · show (("True" : String) : Str).length ≤ 70
      decide
  | _ => simp [Mini.okInt] at h
theorem okInts_len : ∀ {l : List MV}, l.all Mini.okInt = true → PyData.showableAll (toPys l) = true ∧ ((PyData.shownAll (toPys l)).map (·.length)).sum ≤ 70 * l.length ∧ (PyData.shownAll (toPys l)).length = l.length ∧ PyData.hasDictAll (toPys l) = false ∧ PyData.depthAll (toPys l) ≤ 1
  | [], _ => ⟨rfl, by simp [toPys, PyData.shownAll], by simp [toPys, PyData.shownAll], by simp [toPys, PyData.hasDictAll], by simp [toPys, PyData.depthAll]⟩
  | x :: r, h => by
    have h' : Mini.okInt x = true ∧ r.all Mini.okInt = true := by simpa using h
    obtain ⟨a1, a2, a3, a4⟩ := okInt_len h'.1
    obtain ⟨b1, b2, b3, b4, b5⟩ := okInts_len h'.2
    refine ⟨by simp only [toPys, PyData.showableAll, a1, b1] <;> rfl, ?_, ?_, by simp only [toPys, PyData.hasDictAll, a3, b4] <;> rfl, ?_⟩
    · simp only [toPys, PyData.shownAll, List.map_cons, List.sum_cons, List.length_cons]
      omega
    · simp only [toPys, PyData.shownAll, List.length_cons, b3]
    · simp only [toPys, PyData.depthAll]
      omega
theorem okInt_dp {K : PySem.W.Frag} {ρ : Rho} {H : Hp} : ∀ {l : List MV} {xs : List V}, l.all Mini.okInt = true → RVs K H ρ l xs → DpAll K H xs (toPys l)
  | _, _, _, .nil => .nil
  | x :: r, _, h, .cons r1 r2 => by
    have h' : Mini.okInt x = true ∧ r.all Mini.okInt = true := by simpa using h
    refine .cons ?_ (okInt_dp h'.2 r2)
    cases r1 with
    | int i => exact .int i
    | bl b => exact .bl b
    | non => simp [Mini.okInt] at h'
    | str _ => simp [Mini.okInt] at h'
    | loc _ => simp [Mini.okInt] at h'
    | tup _ _ => simp [Mini.okInt] at h'
theorem d_repr (hg : X.A.guards = some []) (hu : X.A.units + 64 < cLine) (hC : C.repr = reprPy) : CallR X (.builtin "repr") (RPo X.K C .repr) := by
  intro pins s σ H vs us Q I r h
  obtain ⟨ρ, st, ds, rs, rv, h⟩ := h
  unfold Mini.prim at h
  split at h <;> first | contradiction | skip
  · cases rv with
    | cons r1 r2 =>
      cases r2
      cases r1 with
      | loc h1 =>
        rename_i nn ad
        split at h
        · rename_i l e
          obtain ⟨xs, h2, h3⟩ := rs.getL e h1
          split at h
          · rename_i hl
            obtain ⟨u, rfl, ru⟩ := vals1 r
            cases ru
            have dp : Dp X.K H (.ref ad) (toPy (.lst l)) := by
              simp only [toPy]
              exact .lst h2 (okInt_dp hl.1 h3)
            obtain ⟨as, rd⟩ := Dp.reads I _ _ _ dp rfl
            obtain ⟨b1, b2, b3, b4, b5⟩ := okInts_len hl.1
            refine repr_of_reads' (h₀ := s.heap) rd (by simpa [toPy, PyData.showable] using b1) (fun z => by simp [toPy, PyData.hasDict, b4] at z) hg (by simp only [toPy, PyData.depth]; omega) (fun _ _ z => z) (fun h' u tk hk => ?_) ?_
            · refine ⟨.str (PyData.shown (toPy (.lst l))), H, I.kept hk, ⟨_, rfl⟩, ?_⟩
              refine h ρ _ H .refl rs (.str ?_)
              rw [hC]
              rfl
            · have e1 := listText_len_le (PyData.shownAll (toPys l))
              simp only [toPy, PyData.shown]
              rw [b3] at e1
              have hs : sizeLine = 16777216 := sizeLine_eq
              have := hl.2
              omega
          · exact h.elim
        · exact h.elim
/-! ### append, stores -/
theorem RS.isL {K : PySem.W.Frag} {ρ : Rho} {H : Hp} {st : Store} {n : Nat} {a : Addr} (r : RS K H ρ st) (h : ρ[n]? = some a) (g : (Mini.getL st n).isSome = true) : ∃ xs, SqL K H a xs := by
  cases e : Mini.getL st n with
  | none => rw [e] at g; cases g
  | some l =>
    obtain ⟨xs, h1, _⟩ := r.getL e h
    exact ⟨xs, h1⟩
theorem m_append {mo me : Mini.ME} {apos : Pos} (ho : PE X a (tE X.K (Mini.evE C mo))) (he : PE X b (tE X.K (Mini.evE C me))) (hst : starEach [b] X.env = (false, eval b X.env) :: starEach [] X.env)
    (hbase : attributeBase a "append" X.env (eval a X.env) = eval a X.env) (hfew : ((backTo pos (starEach [b] X.env)).all (fun x => !x.1) && (backToKw pos (keywordEach [] X.env)).all (fun x => x.1.isSome)
      && decide (([b] : List Expr).length + ([] : List Keyword).length + (if ([] : List Keyword).isEmpty then 0 else 1) < 30)) = true) (hline : (apos.endLine == pos.line) = true) :
    PE X (.Call (.Attribute a "append" apos) [b] [] pos) (tE X.K (Mini.evE C (.meth .append mo [me]))) := by
  refine (pe_bm PySem.F.plainAttrs_list PySem.F.slot_list_append PySem.F.type_list_append mt_append ho (pa_cons he pa_nil hst) hbase hfew hline hst).imp fun σ H Q h => ?_
  obtain ⟨ρ, env, st, rs, re, h⟩ := h
  simp only [Mini.evE, Mini.evEs] at h
  obtain ⟨x, s1, e1, h⟩ := okE_bind h
  refine tE.step rs re e1 fun ρ1 v H1 x1 rs1 re1 rv => ?_
  split at h
  case isFalse => exact h.elim
  rename_i hrc
  obtain ⟨vs, s2, e2, h⟩ := okE_bind h
  cases e3 : Mini.evE C me env s1 with
  | exc _ _ => rw [e3] at e2; cases e2
  | bad => rw [e3] at e2; cases e2
  | ok y s =>
    rw [e3] at e2
    cases e2
    cases x with
    | loc n =>
      cases rv with
      | loc h1 =>
        obtain ⟨xs0, hL⟩ := rs1.isL h1 hrc
        refine ⟨.inl ⟨rfl, xs0, hL⟩, ?_⟩
        refine tE.step rs1 re1 e3 fun ρ2 w H2 x2 rs2 re2 rw' => ?_
        simp only [Mini.meth] at h
        unfold Mini.appendTo at h
        split at h
        · rename_i l e4
          split at h
          · rename_i hl
            have h2 := x2.get h1
            obtain ⟨xs, h3, h4⟩ := rs2.getM e4 h2
            refine ⟨_, xs, w, rfl, rfl, h3, by rw [← h4.length]; exact len_lt hl, ?_⟩
            exact h ρ2 .non _ ((x1.trans x2).trans (ext_set h3)) (rs2.set e4 h2 h3 (h4.append (.cons rw' .nil))) .non
          · exact h.elim
        · exact h.elim
    | _ => exact h.elim
/-- o[i] = v, by values -/
def okU (K : PySem.W.Frag) (ρ : Rho) (H : Hp) (o : Out Unit) (Q : Hp → Prop) : Prop := match o with
  | .ok _ st => ∀ ρ' H', Ext K ρ H ρ' H' → RS K H' ρ' st → Q H'
  | _ => False
theorem setAt_ok {K : PySem.W.Frag} {ρ : Rho} {H : Hp} {st : Store} {x k v : MV} {o i w : V} {Q : Hp → Prop} (rs : RS K H ρ st) (ro : RV K H ρ x o) (ri : RV K H ρ k i) (rv : RV K H ρ v w) (h : okU K ρ H (Mini.setAt x k v st) Q) : rSetL o i w H Q ∨ ∃ a H4, o = .ref a ∧ DPut H a i w H4 ∧ Q H4 := by
  unfold Mini.setAt at h
  split at h
  · cases ro with
    | loc h1 =>
      cases ri
      split at h
      · rename_i l e
        split at h
        · rename_i j e2
          obtain ⟨xs, h2, h3⟩ := rs.getM e h1
          refine .inl ⟨_, xs, _, j, rfl, rfl, h2, by rw [← h3.length]; exact e2, ?_⟩
          exact h ρ _ (ext_set h2) (rs.set e h1 h2 (h3.set rv j))
        · exact h.elim
      · rename_i kvs e
        split at h
        · rename_i hl
          obtain ⟨xs, h2, h3⟩ := rs.cell _ _ _ e h1
          refine .inr ⟨_, _, rfl, DPut.k (k := Sum.inl _) h2 (by rw [← h3.len]; exact len_lt hl), ?_⟩
          exact h ρ _ (ext_setC h2 loose_dK) (rs.setC e rfl rfl h1 h2 loose_dK.w ⟨_, upd_same, (h3.put rv).mono (ext_setC h2 loose_dK)⟩)
        · exact h.elim
      · exact h.elim
  · exact h.elim
end
end DS
end

section
set_option Elab.async false
set_option linter.all false
set_option maxRecDepth 100000
set_option maxHeartbeats 1000000
/-! DeepSound4: what is walked, list comprehensions, loops, statements. -/
namespace DS
open PySem PySem.Spec PyProof.Rows L2
open Mini (MV Cell Store Out)
/-! ### environments -/
section
variable {K : PySem.W.Frag} {ρ ρ' : Rho} {H H' : Hp} {env : Mini.Env} {σ : L2.St}
theorem RE.set {x : MV} {v : V} (i : Nat) (re : RE K H ρ env σ) (rv : RV K H ρ x v) : RE K H ρ (env.set i (some x)) (σ.set i (some v)) := by
  refine ⟨by rw [List.length_set, List.length_set]; exact re.1, fun j y hj => ?_⟩
  by_cases e : j = i
  · subst e
    by_cases hl : j < env.length
    · rw [List.getElem?_set_self hl] at hj
      cases hj
      exact ⟨v, by rw [List.getElem?_set_self (by rw [← re.1]; exact hl)], rv⟩
    · rw [List.getElem?_eq_none (by rw [List.length_set]; omega)] at hj
      cases hj
  · rw [List.getElem?_set_ne (Ne.symm e)] at hj
    obtain ⟨w, h1, h2⟩ := re.2 j y hj
    exact ⟨w, by rw [List.getElem?_set_ne (Ne.symm e)]; exact h1, h2⟩
/-- the slot of a block's own name, forgotten first -/
theorem RE.setW {x : MV} {v : V} (i : Nat) (re : RE K H ρ env σ) (rv : RV K H ρ x v) : RE K H ρ (env.set i (some x)) ((σ.set i none).set i (some v)) := by
  rw [List.set_set]
  exact re.set i rv
theorem RE.kill1 (i : Nat) (re : RE K H ρ env σ) : RE K H ρ (env.set i none) σ := by
  refine ⟨by rw [List.length_set]; exact re.1, fun j y hj => ?_⟩
  by_cases e : j = i
  · subst e
    by_cases hl : j < env.length
    · rw [List.getElem?_set_self hl] at hj
      cases hj
    · rw [List.getElem?_eq_none (by rw [List.length_set]; omega)] at hj
      cases hj
  · rw [List.getElem?_set_ne (Ne.symm e)] at hj
    exact re.2 j y hj
theorem RE.kill : ∀ (ks : List Nat) {env : Mini.Env}, RE K H ρ env σ → RE K H ρ (Mini.killAll ks env) σ
  | [], _, re => re
  | k :: r, env, re => RE.kill r (env := env.set k none) (re.kill1 k)
/-! ### what is walked -/
inductive IRel (K : PySem.W.Frag) (ρ : Rho) (H : Hp) : Mini.Iter → It → Prop
  | lst {n : Nat} {a : Addr} : ρ[n]? = some a → IRel K ρ H (.lst n) (Itl K a)
  | itm {l : List MV} {xs : List V} {a : Addr} : SqT K H a xs → RVs K H ρ l xs → IRel K ρ H (.itm l) (Itt K a)
  | rng {lo : Int} {n : Nat} : IRel K ρ H (.rng lo 1 n) (Itr lo n)
  | dn {lo : Int} {n : Nat} : IRel K ρ H (.rng lo (-1) n) (Itc lo (-1) n)
  | enm {n : Nat} {a : Addr} : ρ[n]? = some a → IRel K ρ H (.enm n) (Ite K a)
  | dct {n : Nat} {a : Addr} {o : Obj} {kvs : List (Key × V)} : ρ[n]? = some a → H a = some (.frz o (.dK kvs)) → IRel K ρ H (.dct n) (Itk a o kvs)
theorem IRel.mono {J : Mini.Iter} {T : It} (e : Ext K ρ H ρ' H') (h : IRel K ρ H J T) : IRel K ρ' H' J T := by
  cases h with
  | lst h => exact .lst (e.get h)
  | itm h r => exact .itm (e.tup _ _ h) (r.mono e)
  | rng => exact .rng
  | dn => exact .dn
  | enm h => exact .enm (e.get h)
  | dct h g => exact .dct (e.get h) (e.frz _ _ _ g)
/-- a locked dict holds what it held -/
theorem getD_frz {st : Store} {n : Nat} {l : List (Int × MV)} {a : Addr} {o : Obj} {kvs : List (Key × V)} (rs : RS K H ρ st) (h : ρ[n]? = some a) (g : H a = some (.frz o (.dK kvs))) (e : Mini.getD st n = some l) : RD K H ρ l kvs := by
  obtain ⟨xs, h1, h2⟩ := rs.getD e h
  rcases h1 with h1 | ⟨o2, h1⟩
  · rw [g] at h1
    cases h1
  · rw [g] at h1
    cases h1
    exact h2
theorem RD.key {i : Nat} {p : Int × MV} : ∀ {l : List (Int × MV)} {kvs : List (Key × V)} {i : Nat}, RD K H ρ l kvs → l[i]? = some p → ∃ v, kvs[i]? = some (Sum.inl p.1, v)
  | _, _, _, .nil, h => by simp at h
  | _, _, 0, .cons h t, g => by
    simp at g
    subst g
    exact ⟨_, rfl⟩
  | _, _, i + 1, .cons h t, g => by
    rw [List.getElem?_cons_succ] at g ⊢
    exact RD.key (i := i) t g
theorem sqL_tupU {T a : Addr} {xs : List V} {o : HO} (h : H T = none) (s : SqL K H a xs) : SqL K (upd H T o) a xs := by
  rcases s with (s | ⟨ob, s⟩) | s
  · exact .inl (.inl (by rw [upd_ne (ne_of_none s h)]; exact s))
  · exact .inl (.inr ⟨ob, by rw [upd_ne (ne_of_none s h)]; exact s⟩)
  · exact .inr s
theorem IRel.stop {J : Mini.Iter} {T : It} {st : Store} {i : Nat} (h : IRel K ρ H J T) (rs : RS K H ρ st) (hs : J.stop st i = true) : T.stop i H := by
  cases h with
  | lst h =>
    simp only [Mini.Iter.stop] at hs
    split at hs
    · rename_i l e
      obtain ⟨xs, h1, h2⟩ := rs.getL e h
      exact ⟨xs, h1, by rw [← h2.length]; simpa using hs⟩
    · cases hs
  | itm h r => exact ⟨_, h, by rw [← r.length]; simpa [Mini.Iter.stop] using hs⟩
  | rng => exact (by simpa [Mini.Iter.stop] using hs : _ ≤ i)
  | dn => exact (by simpa [Mini.Iter.stop] using hs : _ ≤ i)
  | enm h =>
    simp only [Mini.Iter.stop] at hs
    split at hs
    · rename_i l e
      obtain ⟨xs, h1, h2⟩ := rs.getL e h
      exact ⟨xs, h1, by rw [← h2.length]; simpa using hs⟩
    · cases hs
  | dct h g =>
    simp only [Mini.Iter.stop] at hs
    split at hs
    · rename_i l e
      exact ⟨g, by rw [← (getD_frz rs h g e).len]; simpa using hs⟩
    · cases hs
theorem IRel.step {J : Mini.Iter} {T : It} {st : Store} {i : Nat} {x : MV} (h : IRel K ρ H J T) (rs : RS K H ρ st) (hs : J.get st i = some x) :
    T.go i H ∧ ∀ v H', T.yld i H v H' → Ext K ρ H ρ H' ∧ RS K H' ρ st ∧ RV K H' ρ x v := by
  cases h with
  | lst h =>
    obtain ⟨l, e1, e2⟩ := Option.bind_eq_some_iff.mp hs
    obtain ⟨xs, h1, h2⟩ := rs.getL e1 h
    obtain ⟨y, h3, h4⟩ := h2.get e2
    refine ⟨⟨xs, y, h1, h3⟩, fun v H' hy => ?_⟩
    obtain ⟨rfl, f⟩ := hy
    have e := f xs h1
    rw [h3] at e
    cases e
    exact ⟨.refl, rs, h4⟩
  | itm h r =>
    obtain ⟨y, h3, h4⟩ := r.get (show _ = some x from hs)
    refine ⟨⟨_, y, h, h3⟩, fun v H' hy => ?_⟩
    obtain ⟨rfl, f⟩ := hy
    have e := f _ h
    rw [h3] at e
    cases e
    exact ⟨.refl, rs, h4⟩
  | rng =>
    simp only [Mini.Iter.get] at hs
    split at hs
    · rename_i hi
      cases hs
      refine ⟨hi, fun v H' hy => ?_⟩
      obtain ⟨rfl, rfl⟩ := hy
      rw [Int.mul_one]
      exact ⟨.refl, rs, .int _⟩
    · cases hs
  | dn =>
    simp only [Mini.Iter.get] at hs
    split at hs
    · rename_i hi
      cases hs
      refine ⟨hi, fun v H' hy => ?_⟩
      obtain ⟨rfl, rfl⟩ := hy
      exact ⟨.refl, rs, .int _⟩
    · cases hs
  | enm h =>
    obtain ⟨y0, e0, e1⟩ := Option.map_eq_some_iff.mp hs
    obtain ⟨l, e2, e3⟩ := Option.bind_eq_some_iff.mp e0
    subst e1
    obtain ⟨xs, h1, h2⟩ := rs.getL e2 h
    obtain ⟨y, h3, h4⟩ := h2.get e3
    refine ⟨⟨xs, y, h1, h3⟩, fun v H' hy => ?_⟩
    obtain ⟨T, z, rfl, hT, rfl, f⟩ := hy
    have e := f xs h1
    rw [h3] at e
    cases e
    exact ⟨ext_upd hT, rs.upd_tup hT, .tup (.inl (.inl upd_same)) (.cons (.int _) (.cons (h4.mono (ext_upd hT)) .nil))⟩
  | dct h g =>
    obtain ⟨p, e0, e1⟩ := Option.map_eq_some_iff.mp hs
    obtain ⟨l, e2, e3⟩ := Option.bind_eq_some_iff.mp e0
    subst e1
    have hl := getD_frz rs h g e2
    have e3' : l[i]? = some p := e3
    obtain ⟨v, h3⟩ := RD.key (i := i) hl e3'
    refine ⟨⟨g, by rw [← hl.len]; exact (List.getElem?_eq_some_iff.mp e3').1⟩, fun v H' hy => ?_⟩
    obtain ⟨rfl, k, w, h4, rfl⟩ := hy
    rw [h3] at h4
    cases h4
    exact ⟨.refl, rs, .int _⟩
end
section
variable {X : L2.Cx} {tg e a b c : Expr} {es : List Expr} {pos : Pos} {C : Mini.Cx}
/-- what a for walks, and what Mini makes of it -/
structure PID (X : L2.Cx) (tg iter : Expr) (ev : Mini.Env → Store → Out Mini.Iter) : Prop where
  ok : ∃ wi, PI X tg iter wi ∧ ∀ (σ : L2.St) (H : Hp) (R : It → Hp → Prop) (ρ : Rho) (env : Mini.Env) (st : Store) (J : Mini.Iter) (s : Store), RS X.K H ρ st → RE X.K H ρ env σ → ev env st = .ok J s →
    (∀ ρ1 H1 T, Ext X.K ρ H ρ1 H1 → RS X.K H1 ρ1 s → IRel X.K ρ1 H1 J T → R T H1) → wi σ H R
theorem out_bind {α β : Type} {o : Out α} {f : α → Store → Out β} {y : β} {s : Store} (h : o.bind f = .ok y s) : ∃ x s1, o = .ok x s1 ∧ f x s1 = .ok y s := by
  cases o with
  | ok x s1 => exact ⟨x, s1, rfl, h⟩
  | exc _ _ => cases h
  | bad => cases h
/-- a list or a tuple, by the value -/
def iU (K : PySem.W.Frag) (tl : TE) : TI := fun σ H R => tl σ H fun x H1 => ∃ a, x = .ref a ∧ (((∃ xs, SqL K H1 a xs) ∧ R (Itl K a) H1) ∨ ((∃ xs, SqT K H1 a xs) ∧ R (Itt K a) H1))
theorem pi_u {tl : TE} (hl : PE X e tl) : PI X tg e (iU X.K tl) := by
  refine ⟨fun pins s σ H R I h => ?_⟩
  refine thn (hl.run pins s σ H _ I h) fun v s1 ⟨x, H1, I1, r1, q1⟩ => ?_
  obtain ⟨a, ex, q1⟩ := q1
  subst ex
  cases r1
  have fpn : ∀ b, b ∈ [s1.heap.objs.size] → FpOk X pins H1 b := fun b hb => by
    have eb : b = s1.heap.objs.size := by simpa using hb
    rw [eb]
    exact I1.fpOk (Nat.le_refl _) (I1.hok.fresh (Nat.le_refl _))
  rcases q1 with ⟨⟨xs, hq⟩, q⟩ | ⟨⟨xs, hq⟩, q⟩
  · obtain ⟨its, rv, p, hz⟩ := I1.list hq
    exact wpAny_pyIter_list p.isList ⟨s1.heap.objs.size, [s1.heap.objs.size], _, _, H1, rfl, I1.kept (t' := s1.toks) fun b o z => Heap.get?_push_of_some _ z, turn_list a _, ⟨_, Heap.get?_push_size _ rfl, rfl, rfl⟩, fpn, q⟩
  · obtain ⟨its, rv, p, hz⟩ := I1.tuple hq
    exact wpAny_pyIter_tuple (show s1.heap.IsTuple a its.toArray from p) ⟨s1.heap.objs.size, [s1.heap.objs.size], _, _, H1, rfl, I1.kept (t' := s1.toks) fun b o z => Heap.get?_push_of_some _ z, turn_tuple a _, ⟨_, Heap.get?_push_size _ rfl, rfl, rfl⟩, fpn, q⟩
theorem i_seq {m : Mini.ME} (h : PE X e (tE X.K (Mini.evE C m))) : PID X tg e (fun env st => (Mini.evE C m env st).bind fun x s1 => Mini.mkSeq x s1) := by
  refine ⟨_, pi_u h, fun σ H R ρ env st J s rs re ev k => ?_⟩
  obtain ⟨x, s1, e1, e2⟩ := out_bind ev
  refine tE.step rs re e1 fun ρ1 v H1 x1 rs1 re1 rv => ?_
  unfold Mini.mkSeq at e2
  split at e2
  · cases rv with
    | loc h1 =>
      split at e2
      · rename_i l e3
        cases e2
        obtain ⟨xs, h2, h3⟩ := rs1.getL e3 h1
        exact ⟨_, rfl, .inl ⟨⟨xs, h2⟩, k ρ1 H1 _ x1 rs1 (.lst h1)⟩⟩
      · cases e2
  · cases e2
    cases rv with
    | tup h2 h3 => exact ⟨_, rfl, .inr ⟨⟨_, h2⟩, k ρ1 H1 _ x1 rs1 (.itm h2 h3)⟩⟩
  · cases e2
theorem rngOk_of {i : Int} (h : Mini.rngOk i = true) : -(2 ^ 62) ≤ i ∧ i < 2 ^ 62 := by simpa [Mini.rngOk] using h
theorem i_rng1 {m : Mini.ME} {p : Pos} (hg : Gl X "range") (hm : X.mg "range" = none) (h : PE X a (tE X.K (Mini.evE C m))) (hs : starEach [a] X.env = (false, eval a X.env) :: starEach [] X.env) :
    PID X tg (.Call (.Name "range" p) [a] [] pos) (fun env st => (Mini.evE C m env st).bind fun x s1 => Mini.mkR1 x s1) := by
  refine ⟨_, pi_range1 hg hm (pa_cons h pa_nil hs) hs, fun σ H R ρ env st J s rs re ev k => ?_⟩
  obtain ⟨x, s1, e1, e2⟩ := out_bind ev
  refine tE.step rs re e1 fun ρ1 v H1 x1 rs1 re1 rv => ?_
  unfold Mini.mkR1 at e2
  split at e2
  · cases rv
    split at e2
    · rename_i hr
      cases e2
      obtain ⟨a1, a2⟩ := rngOk_of hr
      exact ⟨_, rfl, a1, a2, k ρ1 H1 _ x1 rs1 .rng⟩
    · cases e2
  · cases e2
theorem i_rng2 {ma mb : Mini.ME} {p : Pos} (hg : Gl X "range") (hm : X.mg "range" = none) (ha : PE X a (tE X.K (Mini.evE C ma))) (hb : PE X b (tE X.K (Mini.evE C mb))) (hs1 : starEach [a, b] X.env = (false, eval a X.env) :: starEach [b] X.env)
    (hs2 : starEach [b] X.env = (false, eval b X.env) :: starEach [] X.env) :
    PID X tg (.Call (.Name "range" p) [a, b] [] pos) (fun env st => (Mini.evE C ma env st).bind fun x s0 => (Mini.evE C mb env s0).bind fun y s1 => Mini.mkR2 x y s1) := by
  refine ⟨_, pi_range2 hg hm (pa_cons ha (pa_cons hb pa_nil hs2) hs1) (by rw [hs1, hs2]; rfl) hs2, fun σ H R ρ env st J s rs re ev k => ?_⟩
  obtain ⟨x, s1, e1, ev⟩ := out_bind ev
  obtain ⟨y, s2, e2, e3⟩ := out_bind ev
  refine tE.step rs re e1 fun ρ1 v H1 x1 rs1 re1 rv => ?_
  refine tE.step rs1 re1 e2 fun ρ2 w H2 x2 rs2 re2 rw' => ?_
  unfold Mini.mkR2 at e3
  split at e3
  · cases rv; cases rw'
    split at e3
    · rename_i hr
      cases e3
      have hr' := hr
      rw [Bool.and_eq_true] at hr'
      obtain ⟨a1, a2⟩ := rngOk_of hr'.1
      obtain ⟨a3, a4⟩ := rngOk_of hr'.2
      exact ⟨_, _, rfl, ⟨a1, a2, a3, a4⟩, k ρ2 H2 _ (x1.trans x2) rs2 .rng⟩
    · cases e3
  · cases e3
theorem i_down {ma mb : Mini.ME} {p p1 p2 : Pos} {kk : Nat} (hg : Gl X "range") (hm : X.mg "range" = none) (ha : PE X a (tE X.K (Mini.evE C ma))) (hb : PE X b (tE X.K (Mini.evE C mb)))
    (hs1 : ∀ es, starEach (a :: es) X.env = (false, eval a X.env) :: starEach es X.env) (hs2 : ∀ es, starEach (b :: es) X.env = (false, eval b X.env) :: starEach es X.env) :
    PID X tg (.Call (.Name "range" p) [a, b, .UnaryOp .USub (.Constant (.int 1) kk p1) p2] [] pos) (fun env st => (Mini.evE C ma env st).bind fun x s0 => (Mini.evE C mb env s0).bind fun y s1 => Mini.mkDn x y s1) := by
  refine ⟨_, pi_range3 hg hm (pa_cons ha (pa_cons hb (pa_cons (pe_un un_neg pe_int) pa_nil) (hs2 _)) (hs1 _)) (hs1 _) (by rw [hs2]; rfl), fun σ H R ρ env st J s rs re ev k => ?_⟩
  obtain ⟨x, s1, e1, ev⟩ := out_bind ev
  obtain ⟨y, s2, e2, e3⟩ := out_bind ev
  refine tE.step rs re e1 fun ρ1 v H1 x1 rs1 re1 rv => ?_
  refine tE.step rs1 re1 e2 fun ρ2 w H2 x2 rs2 re2 rw' => ?_
  unfold Mini.mkDn at e3
  split at e3
  · cases rv; cases rw'
    split at e3
    · rename_i hr
      cases e3
      have hr' := hr
      rw [Bool.and_eq_true] at hr'
      obtain ⟨a1, a2⟩ := rngOk_of hr'.1
      obtain ⟨a3, a4⟩ := rngOk_of hr'.2
      exact ⟨1, rfl, _, _, -1, _, rfl, RgC.neg a1 a2 a3 a4, k ρ2 H2 _ (x1.trans x2) rs2 .dn⟩
    · cases e3
  · cases e3
theorem i_keys {i : Nat} {x : Str} {p : Pos} (hN : X.N[i]? = some x) (hv : Vis X.env.scope x) (hd : (x == ("__debug__" : Str)) = false) (hcd : (x == ("__classdict__" : Str)) = false) : PID X tg (.Name x p) (Mini.evI C (.keys i)) := by
  refine ⟨_, pi_keys (pe_var hN hv hd hcd), fun σ H R ρ env st J s rs re ev k => ?_⟩
  simp only [Mini.evI] at ev
  split at ev
  · rename_i n ei
    split at ev
    · rename_i kvs e1
      cases ev
      obtain ⟨w, h1, h2⟩ := re.2 i _ ei
      cases h2 with
      | loc h3 =>
        obtain ⟨o, xs, h4, h5⟩ := rs.cell _ _ _ e1 h3
        exact ⟨_, h1, _, o, rfl, .inl ⟨xs, h4, k ρ H _ .refl rs (.dct h3 h4)⟩⟩
    · cases ev
  · cases ev
theorem i_enm {m : Mini.ME} {p tpos : Pos} {elts : List Expr} {kk : Nat} (hg : Gl X "enumerate") (hm : X.mg "enumerate" = none) (h : PE X a (tE X.K (Mini.evE C m))) (hs : starEach [a] X.env = (false, eval a X.env) :: starEach [] X.env) :
    PID X (.Tuple elts kk tpos) (.Call (.Name "enumerate" p) [a] [] pos) (fun env st => (Mini.evE C m env st).bind fun x s1 => Mini.mkEn x s1) := by
  refine ⟨_, pi_enum hg hm (pa_cons h pa_nil hs) hs, fun σ H R ρ env st J s rs re ev k => ?_⟩
  obtain ⟨x, s1, e1, e2⟩ := out_bind ev
  refine tE.step rs re e1 fun ρ1 v H1 x1 rs1 re1 rv => ?_
  unfold Mini.mkEn at e2
  split at e2
  · cases rv with
    | loc h1 =>
      split at e2
      · rename_i l e3
        cases e2
        obtain ⟨xs, h2, h3⟩ := rs1.getL e3 h1
        exact ⟨_, xs, rfl, h2, k ρ1 H1 _ x1 rs1 (.enm h1)⟩
      · cases e2
  · cases e2
/-! ### targets -/
structure PGD (X : L2.Cx) (tg : Expr) (g : Mini.MG) : Prop where
  ok : ∃ t, PG X tg t ∧ ∀ (v : V) (σ : L2.St) (H : Hp) (Q : L2.St → Hp → Prop) (ρ : Rho) (env env2 : Mini.Env) (x : MV), RE X.K H ρ env σ → RV X.K H ρ x v → Mini.setG g x env = some env2 → (∀ σ2, RE X.K H ρ env2 σ2 → Q σ2 H) → t v σ H Q
theorem g_name {i : Nat} {x : Str} (hN : X.N.Nodup) (hi : X.N[i]? = some x) (hx : Loc X.env.scope x) (hf : X.fn x = true ∨ X.env.scope.names.lookup x = some .local) : PGD X (.Name x pos) (.nm i) :=
  ⟨gName i, pg_name hN hi hx hf, fun v σ H Q ρ env env2 y re rv e k => by
    cases e
    exact k _ (re.set i rv)⟩
/-- several names, from the left -/
theorem g_names (hN : X.N.Nodup) : ∀ (is : List Nat) (ts : List Expr), (∀ (j : Nat) (i : Nat), is[j]? = some i → ∃ x p, ts[j]? = some (.Name x p) ∧ X.N[i]? = some x ∧ Loc X.env.scope x ∧ (X.fn x = true ∨ X.env.scope.names.lookup x = some .local)) → is.length = ts.length →
    ∃ t, PGs X ts t ∧ (assignEach ts X.env).length = is.length ∧ (assignEach ts X.env).findIdx? (·.1) = none ∧ ∀ (vs : List V) (σ : L2.St) (H : Hp) (Q : L2.St → Hp → Prop) (ρ : Rho) (env : Mini.Env) (l : List MV), RE X.K H ρ env σ → RVs X.K H ρ l vs → is.length = l.length →
      (∀ σ2, RE X.K H ρ ((is.zip l).foldl (fun e p => e.set p.1 (some p.2)) env) σ2 → Q σ2 H) → t vs σ H Q
  | [], [], _, _ => ⟨gNil, pgs_nil, rfl, rfl, fun vs σ H Q ρ env l re rv hl k => by
      cases l with
      | nil =>
        cases rv
        exact ⟨rfl, k σ re⟩
      | cons _ _ => cases hl⟩
  | [], _ :: _, _, h => by cases h
  | _ :: _, [], _, h => by cases h
  | i :: is, tt :: ts, h, hl => by
    obtain ⟨x, p, e1, e2, e3, e4⟩ := h 0 i rfl
    cases (show some tt = some (.Name x p) from e1)
    obtain ⟨t, h1, h2, h3, h4⟩ := g_names hN is ts (fun j k hj => h (j + 1) k hj) (by simpa using hl)
    refine ⟨gCons (gName i) t, pgs_cons (pg_name hN e2 e3 e4) h1 rfl, by show (assignEach ts X.env).length + 1 = _; rw [h2]; rfl, ?_, fun vs σ H Q ρ env l re rv hl k => ?_⟩
    · show ((false, assign (.Name x p) X.env) :: assignEach ts X.env).findIdx? (·.1) = none
      rw [List.findIdx?_cons, h3]
      rfl
    · cases rv with
      | nil => cases hl
      | cons r1 r2 => exact ⟨_, _, rfl, h4 _ _ H Q ρ _ _ (re.set i r1) r2 (by simpa using hl) k⟩
theorem g_tup {is : List Nat} {ts : List Expr} {kk : Nat} (hc : X.calm = true) (hN : X.N.Nodup) (h : ∀ (j : Nat) (i : Nat), is[j]? = some i → ∃ x p, ts[j]? = some (.Name x p) ∧ X.N[i]? = some x ∧ Loc X.env.scope x ∧ (X.fn x = true ∨ X.env.scope.names.lookup x = some .local)) (hl : is.length = ts.length) :
    PGD X (.Tuple ts kk pos) (.tp is) := by
  obtain ⟨t, h1, h2, h3, h4⟩ := g_names hN is ts h hl
  refine ⟨_, pg_tup hc h1 h2 h3, fun v σ H Q ρ env env2 x re rv e k => ?_⟩
  cases x with
  | tup l =>
    simp only [Mini.setG] at e
    split at e
    · rename_i hl2
      cases e
      cases rv with
      | tup s r => exact ⟨_, _, rfl, s, by rw [← r.length, ← hl2], h4 _ σ H Q ρ env l re r hl2 k⟩
    · cases e
  | _ => cases e
/-! ### list comprehensions -/
structure PTD (X : L2.Cx) (ifs : List Expr) (C : Mini.Cx) (cs : List Mini.ME) : Prop where
  ok : PTs X ifs (tT X.K (Mini.tsts C cs))
theorem t_nil : PTD X [] C [] := ⟨by
  refine ⟨fun pins s σ H Q I h => pts_nil.run pins s σ H Q I ?_⟩
  obtain ⟨ρ, env, st, rs, re, h⟩ := h
  simp only [Mini.tsts] at h
  exact h ρ H .refl rs⟩
theorem t_one {m : Mini.ME} (hc : PT X c (tT X.K (Mini.tst C m))) : PTD X [c] C [m] := ⟨by
  refine ⟨fun pins s σ H Q I h => (pts_one hc).run pins s σ H Q I ?_⟩
  obtain ⟨ρ, env, st, rs, re, h⟩ := h
  simp only [Mini.tsts] at h
  exact ⟨ρ, env, st, rs, re, h⟩⟩
/-- the turns of a comprehension whose target is the name in slot i -/
theorem lc_deep {K : PySem.W.Frag} {i : Nat} {cs : List Mini.ME} {m : Mini.ME} {wi : TI} {ev : Mini.Env → Store → Out Mini.Iter} (hw : ∀ (σ : L2.St) (H : Hp) (R : It → Hp → Prop) (ρ : Rho) (env : Mini.Env) (st : Store) (J : Mini.Iter) (s : Store), RS K H ρ st → RE K H ρ env σ → ev env st = .ok J s →
      (∀ ρ1 H1 T, Ext K ρ H ρ1 H1 → RS K H1 ρ1 s → IRel K ρ1 H1 J T → R T H1) → wi σ H R) {σ : L2.St} {H : Hp} {Q : VK}
    (h : tE K (fun env st => (ev env st).bind fun J s2 => Mini.lcRun J (fun v s => match Mini.setG (.nm i) v env with
      | none => .bad
      | some env2 => (Mini.tsts C cs env2 s).bind fun b s3 => if b then (Mini.evE C m env2 s3).bind fun y s4 => .ok (some y) s4 else .ok none s3) s2) σ H Q) :
    tLc wi (gName i) (tT K (Mini.tsts C cs)) (tE K (Mini.evE C m)) [i] σ H Q := by
  obtain ⟨ρ, env, st, rs, re, h⟩ := h
  obtain ⟨J, s2, e1, h⟩ := okE_bind h
  refine hw σ H _ ρ env st J s2 rs re e1 fun ρ1 H1 T x1 rs1 ir D hD => ?_
  unfold Mini.lcRun at h
  have hDn : (ρ1 ++ [D])[s2.length]? = some D := by rw [← rs1.len]; simp
  refine ⟨fun i' n H' => ∃ ρ' st', Ext K ρ H ρ' H' ∧ RS K H' ρ' st' ∧ ρ'[s2.length]? = some D ∧ IRel K ρ' H' J T ∧ OkE K ρ' H' (Mini.lcLoop J s2.length _ n i' st') Q,
    ⟨_, ρ1 ++ [D], _, x1.trans (ext_new hD), rs1.new hD .nil, hDn, ir.mono (ext_new hD), h.mono (x1.trans (ext_new hD))⟩, ?_⟩
  rintro i' n H' ⟨ρ', st', x2, rs2, hd, ir2, h⟩
  cases n with
  | zero =>
    simp only [Mini.lcLoop] at h
    split at h
    · rename_i hs
      exact .inl ⟨ir2.stop rs2 hs, h ρ' _ H' .refl rs2 (.loc hd)⟩
    · exact h.elim
  | succ n =>
    simp only [Mini.lcLoop] at h
    cases eg : J.get st' i' with
    | none => rw [eg] at h; exact h.elim
    | some x =>
      rw [eg] at h
      obtain ⟨hgo, hy⟩ := ir2.step rs2 eg
      refine .inr ⟨hgo, fun H3 => ∃ ρ' st', Ext K ρ H ρ' H3 ∧ RS K H3 ρ' st' ∧ ρ'[s2.length]? = some D ∧ IRel K ρ' H3 J T ∧ OkE K ρ' H3 (Mini.lcLoop J s2.length _ n (i' + 1) st') Q, fun H3 hN => ⟨n, Nat.lt_succ_self n, hN⟩, fun v H3 hyv => ?_⟩
      obtain ⟨x3, rs3, rv⟩ := hy v H3 hyv
      have re3 : RE K H3 ρ' (env.set i (some x)) ((wipe σ [i]).set i (some v)) := (re.mono (x2.trans x3)).setW i rv
      refine ⟨?_, ?_⟩
      · show ((σ.set i none).set i (some v)).set i none = σ.set i none
        rw [List.set_set, List.set_set]
      · obtain ⟨r, s4, e4, h⟩ := okE_bind h
        simp only [Mini.setG] at e4
        obtain ⟨bb, s5, e5, e6⟩ := out_bind e4
        refine tT.step rs3 re3 e5 fun ρ5 H5 x5 rs5 re5 => ?_
        cases bb with
        | false =>
          rw [if_neg (by decide)]
          simp only [Bool.false_eq_true, if_false] at e6
          cases e6
          refine ⟨ρ5, _, (x2.trans x3).trans x5, rs5, x5.get hd, ir2.mono (x3.trans x5), ?_⟩
          exact OkE.mono (x3.trans x5) h
        | true =>
          rw [if_pos rfl]
          simp only [if_true] at e6
          obtain ⟨y, s6, e7, e8⟩ := out_bind e6
          cases e8
          refine tE.step rs5 re5 e7 fun ρ6 w H6 x6 rs6 re6 rw' => ?_
          obtain ⟨uu, s7, e9, h⟩ := okE_bind h
          unfold Mini.appendTo at e9
          split at e9
          · rename_i l el
            split at e9
            · rename_i hl
              cases e9
              have hd6 := x6.get (x5.get hd)
              obtain ⟨acc, a1, a2⟩ := rs6.getM el hd6
              refine ⟨acc, a1, by rw [← a2.length]; exact len_lt hl, ρ6, _, ((x2.trans x3).trans (x5.trans x6)).trans (ext_set a1), rs6.set el hd6 a1 (a2.append (.cons rw' .nil)), hd6, ir2.mono ((x3.trans (x5.trans x6)).trans (ext_set a1)), ?_⟩
              exact OkE.mono ((x3.trans (x5.trans x6)).trans (ext_set a1)) h
            · cases e9
          · cases e9
end
end DS
end

section
set_option Elab.async false
set_option linter.all false
set_option maxRecDepth 100000
set_option maxHeartbeats 1000000
/-! DeepSound5: a def's promise where the guards around are known (FnG), calls, statements. -/
namespace DS
open PySem PySem.Spec PyProof.Rows L2
open Mini (MV Cell Store Out)
/-! ### defs, called where no guard runs -/
structure FnG (P : Program) (w : PySem.World) (K : PySem.W.Frag) (mg : Str → Option Value) (base : Heap) (k : Nat) (f : Addr) (fd : FuncData) (ps : List Str) (sp : Sp) : Prop where
  len : ∀ vs H Q E, sp vs H Q E → vs.length = ps.length
  run : ∀ (A : Around) (outer : List Env) (s : Shared) (H : Hp) (args : Args) (us : List Value) (vs : List V) (Q : VK) (E : XK), Room k A → A.guards = some [] → Env0 P w K mg base A outer s H →
    BindsTo s fd args (ps.zip us) → Vals vs us → sp vs H Q E → codeAny (model P w) A (.call (.ref f) args) (CR CX0 outer P w H s Q E) s
section
variable {P : Program} {w : PySem.World} {K : PySem.W.Frag} {mg : Str → Option Value} {base : Heap}
/-- a def as it stands in K, whatever its defaults -/
structure FunX (K : PySem.W.Frag) (x qual : Str) (st : Stmt) (f : Addr) (fd : FuncData) : Prop where
  ex : ∃ (oc : Value) (od : Option Addr) (dV kV doc pm : Value) (an : Option Addr) (cdv ct : Value) (osl : Array (Option Value)),
    fd = PySem.W.fnOf x qual (defArgs st) (defBody st) (defScope st) dV kV doc pm an cdv ct ∧ K.lookup f = some ⟨oc, od, .func fd, osl⟩ ∧ PySem.W.codeIn K cdv qual = true
  kp : PySem.W.keepIn K (.ref f) = true
theorem FunX.of {x qual : Str} {st : Stmt} {f : Addr} {fd : FuncData} (F : Fun K x qual st f fd) : FunX K x qual st f fd := by
  obtain ⟨oc, od, kV, doc, pm, an, cdv, ct, osl, h1, h2, h3⟩ := F.ex
  exact ⟨⟨oc, od, .none, kV, doc, pm, an, cdv, ct, osl, h1, h2, h3⟩, F.kp⟩
theorem FunX.ofD {x qual : Str} {st : Stmt} {dvs : List V} {kws : List (Str × V)} {f : Addr} {fd : FuncData} (F : FunD K x qual (defArgs st) (defBody st) (defScope st) dvs kws f fd) : FunX K x qual st f fd := by
  obtain ⟨oc, od, dV, kV, doc, pm, an, cdv, ct, osl, h1, h2, h3, _, _⟩ := F.ex
  exact ⟨⟨oc, od, dV, kV, doc, pm, an, cdv, ct, osl, h1, h2, h3⟩, F.kp⟩
/-- by the body, which is told that no guard runs -/
theorem fnG_of {x qual : Str} {st : Stmt} {f : Addr} {fd : FuncData} {N ps : List Str} {k : Nat} {sp : Sp} (F : FunX K x qual st f fd) (S : FnScope N ps (defScope st)) (len : ∀ vs H Q E, sp vs H Q E → vs.length = ps.length)
    (hbody : ∀ (cdv : Value) (A : Around) (outer : List Env) (s : Shared) (H : Hp) (vs : List V) (Q : VK) (E : XK), Room k (A.deeper (envOfC qual (defScope st) s.heap.objs.size f cdv)) → A.guards = some [] → sp vs H Q E →
      ∃ t, PSs (cxOf CX0 P w K mg base N qual (defScope st) f cdv A outer s H E).nox (defBody st) t ∧ t { nx := fun _ H' => Q .non H', rt := Q } (start N vs) H) : FnG P w K mg base (k + 1) f fd ps sp := by
  obtain ⟨oc, od, dV, kV, doc, pm, an, cdv, ct, osl, rfl, lk, hcd⟩ := F.ex
  refine ⟨len, fun A outer s H args us vs Q E hr hgd e0 hb r hsp => ?_⟩
  generalize hsc : defScope st = scope at *
  have hl := len _ _ _ _ hsp
  have KX : K.In s.heap := e0.mod.kin.keeps fun b o e => (e0.bs b o e).1
  have lim : s.heap.NoLimit := e0.mod.nolimit.keeps fun b o e => (e0.bs b o e).1
  have hkind : ∀ y ∈ ps.zip us, scope.names.lookup y.1 = some .local ∨ (scope.names.lookup y.1 = some .cell ∧ ((cellsFrom (s.heap.objs.size + 1) scope.names []).lookup y.1).isSome = true) := fun ⟨n, v⟩ hy => by
    rcases S.par n (List.of_mem_zip hy).1 with q | q
    · exact .inl q
    · exact .inr ⟨q, PySem.W.cellsFrom_some _ _ _ (.inl q)⟩
  have room := hr.deeper (envOfC qual scope s.heap.objs.size f cdv)
  refine codeAny_call_function hr.depth (KX _ _ lk) rfl S.co S.gen rfl (PySem.W.codeRec_of KX hcd) (hb _ _ _ _ (wpAny_newFunctionEnv_cells S.kind hkind fun env he s1 x => ?_))
  subst he
  refine ⟨lim.keeps x.toInCall.keep, codeAny_func ?_⟩
  obtain ⟨t, ht, hq⟩ := hbody cdv A outer s H vs Q E room hgd hsp
  have I : L2.Inv (cxOf CX0 P w K mg base N qual scope f cdv A outer s H E) [] (start N vs) H s1 := inv_start S hr.hd e0 hl r x
  refine wpAny_mono (ht.nox.run [] s1 (start N vs) H _ I hq) (fun fl s' hs => ?_) fun e s' hs => hs
  cases fl with
  | ret u =>
    obtain ⟨v, σ', H', J, rv, q⟩ := hs
    exact ⟨v, H', J.os, J.bare, J.base, J.hok, rv, q⟩
  | next =>
    obtain ⟨σ', H', J, q⟩ := hs
    exact ⟨.non, H', J.os, J.bare, J.base, J.hok, rfl, q⟩
  | brk =>
    obtain ⟨_, _, _, q⟩ := hs
    exact False.elim q
  | cont =>
    obtain ⟨_, _, _, q⟩ := hs
    exact False.elim q
theorem FnG.mono {j k : Nat} {f : Addr} {fd : FuncData} {ps : List Str} {sp : Sp} (F : FnG P w K mg base j f fd ps sp) (h : j ≤ k) : FnG P w K mg base k f fd ps sp :=
  ⟨F.len, fun A outer s H args us vs Q E hr => F.run A outer s H args us vs Q E (hr.mono h)⟩
end
section
variable {X : L2.Cx} {k : Nat} {f : Addr} {fd : FuncData} {ps : List Str} {sp : Sp} {dvs : List V} {ds : List Value} {E : XK} {x : Str} {p pos : Pos} {e : Expr} {es : List Expr} {t : TA}
theorem runG {pins : List (Addr × Obj)} {σ : L2.St} {H : Hp} {s : Shared} {Q : VK} {us : List Value} {vs : List V} (F : FnG X.prog X.w X.K X.mg X.base k f fd ps sp) (hr : Room k X.A) (hgd : X.A.guards = some []) (hb : Binds X.K fd ps ds) (hd : Vals dvs ds)
    (I : L2.Inv X pins σ H s) (r : Vals vs us) (h : sp (vs ++ dvs) H Q E) : wpAny (model X.prog X.w) X.A (call (.ref f) us) (EP X pins σ Q) X.xe s := by
  have r2 : Vals (vs ++ dvs) (us ++ ds) := r.append hd
  have hl : (us ++ ds).length = ps.length := r2.length.symm.trans (F.len _ _ _ _ h)
  have run := F.run X.A X.stack s H ⟨us, []⟩ (us ++ ds) (vs ++ dvs) Q E hr hgd I.env0 (hb s us I.kIn hl) r2 h
  refine wpAny_call (codeAny_mono run fun r s' hq => ?_)
  match r, hq with
  | .error e, hq => exact hq.elim
  | .ok (.ret u), hq => exact I.after hq
theorem pe_callG (F : FnG X.prog X.w X.K X.mg X.base k f fd ps sp) (hr : Room k X.A) (hgd : X.A.guards = some []) (hg : Gl X x) (hm : X.mg x = some (.ref f)) (hk : PySem.W.keepIn X.K (.ref f) = true) (hb : Binds X.K fd ps ds) (hd : Vals dvs ds)
    (ha : PA X (e :: es) t) (hdb : (x == ("__debug__" : Str)) = false) (he : starEach (e :: es) X.env = (false, eval e X.env) :: starEach es X.env) (hpl : (backTo pos (starEach es X.env)).any (·.1) = false) :
    PE X (.Call (.Name x p) (e :: es) [] pos) (tCall sp dvs E t) := by
  refine ⟨fun pins s σ H Q I h => ?_⟩
  have go := fun us s1 (z : AP X pins σ (fun vs H1 => sp (vs ++ dvs) H1 Q E) us s1) => z
  refine wpAny_Call_Name_kw (ld_glob I hg hm (PySem.W.callWith_K (h₀ := X.base) I.ok.mod.kin hk (thn (ha.run pos pins s σ H _ I h) fun us s1 z => ?_) he hpl) hdb)
  obtain ⟨vs, H1, I1, r, q⟩ := go us s1 z
  exact ⟨I1.kIn, runG F hr hgd hb hd I1 r q⟩
theorem pe_callG0 (F : FnG X.prog X.w X.K X.mg X.base k f fd ps sp) (hr : Room k X.A) (hgd : X.A.guards = some []) (hg : Gl X x) (hm : X.mg x = some (.ref f)) (hk : PySem.W.keepIn X.K (.ref f) = true) (hb : Binds X.K fd ps ds) (hd : Vals dvs ds)
    (hdb : (x == ("__debug__" : Str)) = false) : PE X (.Call (.Name x p) [] [] pos) (tCall sp dvs E tNil) :=
  ⟨fun pins s σ H Q I h => wpAny_Call_Name_kw (ld_glob I hg hm (PySem.W.callWith_K0 I.kIn hk (runG (us := []) F hr hgd hb hd I .nil h)) hdb)⟩
end
/-! ### what a def of Mini promises -/
def spD (K : PySem.W.Frag) (W : Mini.World) (k f : Nat) : Sp := fun vs H Q _ => ∃ ρ st ds, RS K H ρ st ∧ RVs K H ρ ds vs ∧ OkE K ρ H (Mini.callK W k f ds st) Q
/-! ### statements -/
def OkS (K : PySem.W.Frag) (ρ : Rho) (H : Hp) (o : Out Mini.Ctl) (D : Ends) : Prop := match o with
  | .ok (.next e) st => ∀ ρ' σ' H', Ext K ρ H ρ' H' → RS K H' ρ' st → RE K H' ρ' e σ' → D.nx σ' H'
  | .ok (.brk e) st => ∀ ρ' σ' H', Ext K ρ H ρ' H' → RS K H' ρ' st → RE K H' ρ' e σ' → D.bk σ' H'
  | .ok (.cont e) st => ∀ ρ' σ' H', Ext K ρ H ρ' H' → RS K H' ρ' st → RE K H' ρ' e σ' → D.ct σ' H'
  | .ok (.ret v) st => ∀ ρ' w H', Ext K ρ H ρ' H' → RS K H' ρ' st → RV K H' ρ' v w → D.rt w H'
  | _ => False
section
variable {K : PySem.W.Frag} {ρ ρ' : Rho} {H H' : Hp}
theorem OkS.mono {o : Out Mini.Ctl} {D : Ends} (e : Ext K ρ H ρ' H') (h : OkS K ρ H o D) : OkS K ρ' H' o D := by
  cases o with
  | ok c st =>
    cases c with
    | next _ => exact fun ρ1 σ1 H1 x r1 r2 => h ρ1 σ1 H1 (e.trans x) r1 r2
    | brk _ => exact fun ρ1 σ1 H1 x r1 r2 => h ρ1 σ1 H1 (e.trans x) r1 r2
    | cont _ => exact fun ρ1 σ1 H1 x r1 r2 => h ρ1 σ1 H1 (e.trans x) r1 r2
    | ret _ => exact fun ρ1 σ1 H1 x r1 r2 => h ρ1 σ1 H1 (e.trans x) r1 r2
  | exc _ _ => exact h
  | bad => exact h
theorem okS_bind {α : Type} {o : Out α} {f : α → Store → Out Mini.Ctl} {D : Ends} (h : OkS K ρ H (o.bind f) D) : ∃ x s, o = .ok x s ∧ OkS K ρ H (f x s) D := by
  cases o with
  | ok x s => exact ⟨x, s, rfl, h⟩
  | exc _ _ => exact h.elim
  | bad => exact h.elim
def tS (K : PySem.W.Frag) (ev : Mini.Env → Store → Out Mini.Ctl) : TS := fun D σ H => ∃ ρ env st, RS K H ρ st ∧ RE K H ρ env σ ∧ OkS K ρ H (ev env st) D
end
section
variable {X : L2.Cx} {st : Stmt} {ss : List Stmt} {tg e a b c : Expr} {es : List Expr} {pos : Pos} {C : Mini.Cx}
theorem _root_.L2.PS.imp {t t' : TS} (h : PS X st t) (i : ∀ D σ H, t' D σ H → t D σ H) : PS X st t' := ⟨fun pins s σ H D I w => h.run pins s σ H D I (i D σ H w)⟩
theorem _root_.L2.PSs.imp {t t' : TS} (h : PSs X ss t) (i : ∀ D σ H, t' D σ H → t D σ H) : PSs X ss t' := ⟨fun pins s σ H D I w => h.run pins s σ H D I (i D σ H w)⟩
theorem s_asg {g : Mini.MG} {m : Mini.ME} (he : PE X e (tE X.K (Mini.evE C m))) (hg : PGD X tg g) (hs : swapsWithSole [tg] e pos.line X.env = pure false) (hw : swappedStores [tg] e X.env = pure none) (h1 : (assignEach [tg] X.env).map (·.2) = [assign tg X.env]) :
    PS X (.Assign [tg] e pos) (tS X.K (Mini.evS C (.asg g m))) := by
  obtain ⟨t, pg, kg⟩ := hg.ok
  refine (ps_asg he pg hs hw h1).imp fun D σ H h => ?_
  obtain ⟨ρ, env, st, rs, re, h⟩ := h
  simp only [Mini.evS] at h
  obtain ⟨x, s1, e1, h⟩ := okS_bind h
  refine tE.step rs re e1 fun ρ1 v H1 x1 rs1 re1 rv => ?_
  split at h
  · rename_i env2 e2
    exact kg v σ H1 D.nx ρ1 env env2 x re1 rv e2 fun σ2 re2 => h ρ1 σ2 H1 x1 rs1 re2
  · exact h.elim
/-- name = [..]: ev is the comprehension's outcome -/
theorem s_asgLc {i : Nat} {m : Mini.ME} {t : TE} (hp : PS X st (tAsg t (gName i))) (ht : ∀ σ H Q, tE X.K (Mini.evE C m) σ H Q → t σ H Q) : PS X st (tS X.K (Mini.evS C (.asg (.nm i) m))) := hp.imp fun D σ H h => by
  obtain ⟨ρ, env, st, rs, re, h⟩ := h
  simp only [Mini.evS] at h
  obtain ⟨x, s1, e1, h⟩ := okS_bind h
  refine ht σ H _ (tE.step rs re e1 fun ρ1 v H1 x1 rs1 re1 rv => ?_)
  simp only [Mini.setG] at h
  exact h ρ1 _ H1 x1 rs1 (re1.set i rv)
def rSetLD : TSet := fun o i v H Q => rSetL o i v H Q ∨ ∃ a H4, o = .ref a ∧ DPut H a i v H4 ∧ Q H4
theorem set_ld (hu : X.A.units + 64 < cLine) : PSet X rSetLD := by
  intro pins s σ H o i v ov iv u Q I ro ri rv h
  rcases h with h | ⟨a, H4, rfl, g, q⟩
  · exact set_list pins s σ H o i v ov iv u Q I ro ri rv h
  · cases ro
    exact d_setItem (by omega) I g ri rv fun s4 I4 => ⟨H4, I4, q⟩
theorem s_setIx {mo mi me : Mini.ME} (hu : X.A.units + 64 < cLine) (ho : PE X a (tE X.K (Mini.evE C mo))) (hi : PE X b (tE X.K (Mini.evE C mi))) (he : PE X e (tE X.K (Mini.evE C me))) {p2 : Pos}
    (hs : swapsWithSole [.Subscript a b p2] e pos.line X.env = pure false) (hw : swappedStores [.Subscript a b p2] e X.env = pure none)
    (ha : ∀ v, assign (.Subscript a b p2) X.env v = (do
      let ov ← holding [v] (eval a X.env)
      let iv ← holding [v, ov] (eval b X.env)
      standAt p2
      holding [v, ov, iv] (setItem ov iv v)
      release [v, ov, iv] [])) :
    PS X (.Assign [.Subscript a b p2] e pos) (tS X.K (Mini.evS C (.setIx mo mi me))) := by
  refine (ps_asg he (pg_sub ho hi (set_ld hu) ha) hs hw rfl).imp fun D σ H h => ?_
  obtain ⟨ρ, env, st, rs, re, h⟩ := h
  simp only [Mini.evS] at h
  obtain ⟨v, s1, e1, h⟩ := okS_bind h
  refine tE.step rs re e1 fun ρ1 wv H1 x1 rs1 re1 rv => ?_
  obtain ⟨x, s2, e2, h⟩ := okS_bind h
  refine tE.step rs1 re1 e2 fun ρ2 wx H2 x2 rs2 re2 rx => ?_
  obtain ⟨k, s3, e3, h⟩ := okS_bind h
  refine tE.step rs2 re2 e3 fun ρ3 wk H3 x3 rs3 re3 rk => ?_
  obtain ⟨uu, s4, e4, h⟩ := okS_bind h
  refine setAt_ok rs3 (rx.mono x3) rk (rv.mono (x2.trans x3)) ?_
  rw [e4]
  exact fun ρ4 H4 x4 rs4 => h ρ4 σ H4 ((x1.trans x2).trans (x3.trans x4)) rs4 (re3.mono x4)
theorem s_aug {op : Operator} {o : Mini.Op2} {i : Nat} {x : Str} {m : Mini.ME} {p2 : Pos} {g : Int → Int → Int} (hN : X.N.Nodup) (hi : X.N[i]? = some x) (hx : Loc X.env.scope x) (hf : X.fn x = true ∨ X.env.scope.names.lookup x = some .local)
    (ho : PIp X op (ipI g)) (ha : ∀ (x y : MV) (st : Store), (∃ i j, x = .int i ∧ y = .int j ∧ Mini.augI o x y st = .ok (.int (g i j)) st) ∨ Mini.augI o x y st = .bad) (he : PE X e (tE X.K (Mini.evE C m))) : PS X (.AugAssign (.Name x p2) op e pos) (tS X.K (Mini.evS C (.aug o i m))) := by
  refine (ps_aug hN hi hx he ho hf).imp fun D σ H h => ?_
  obtain ⟨ρ, env, st, rs, re, h⟩ := h
  simp only [Mini.evS] at h
  split at h
  · rename_i y ey
    obtain ⟨w, h1, h2⟩ := re.2 i y ey
    obtain ⟨z, s1, e1, h⟩ := okS_bind h
    refine ⟨w, h1, tE.step rs re e1 fun ρ1 v H1 x1 rs1 re1 rv => ?_⟩
    obtain ⟨q, s2, e2, h⟩ := okS_bind h
    rcases ha y z s1 with ⟨i1, j1, rfl, rfl, e3⟩ | e3
    · rw [e3] at e2
      cases e2
      cases h2
      cases rv
      exact ⟨_, _, rfl, rfl, h ρ1 _ H1 x1 rs1 (re1.set i (.int _))⟩
    · rw [e3] at e2
      cases e2
  · exact h.elim
theorem aug_add (x y : MV) (st : Store) : (∃ i j, x = .int i ∧ y = .int j ∧ Mini.augI .add x y st = .ok (.int (i + j)) st) ∨ Mini.augI .add x y st = .bad := by
  cases x <;> first | exact .inr rfl | skip
  cases y <;> first | exact .inr rfl | exact .inl ⟨_, _, rfl, rfl, rfl⟩
theorem aug_sub (x y : MV) (st : Store) : (∃ i j, x = .int i ∧ y = .int j ∧ Mini.augI .sub x y st = .ok (.int (i - j)) st) ∨ Mini.augI .sub x y st = .bad := by
  cases x <;> first | exact .inr rfl | skip
  cases y <;> first | exact .inr rfl | exact .inl ⟨_, _, rfl, rfl, rfl⟩
theorem s_expr {m : Mini.ME} (he : PE X e (tE X.K (Mini.evE C m))) (hs : swapsWith e none pos.line X.env = pure false) : PS X (.Expr e pos) (tS X.K (Mini.evS C (.expr m))) := (ps_expr he hs).imp fun D σ H h => by
  obtain ⟨ρ, env, st, rs, re, h⟩ := h
  simp only [Mini.evS] at h
  obtain ⟨x, s1, e1, h⟩ := okS_bind h
  exact tE.step rs re e1 fun ρ1 v H1 x1 rs1 re1 rv => h ρ1 σ H1 x1 rs1 re1
theorem s_ret {m : Mini.ME} (he : PE X e (tE X.K (Mini.evE C m))) : PS X (.Return (some e) pos) (tS X.K (Mini.evS C (.ret m))) := (ps_ret he).imp fun D σ H h => by
  obtain ⟨ρ, env, st, rs, re, h⟩ := h
  simp only [Mini.evS] at h
  obtain ⟨x, s1, e1, h⟩ := okS_bind h
  exact tE.step rs re e1 fun ρ1 v H1 x1 rs1 re1 rv => h ρ1 v H1 x1 rs1 rv
theorem s_retN : PS X (.Return none pos) (tS X.K (Mini.evS C .retN)) := ps_retN.imp fun D σ H h => by
  obtain ⟨ρ, env, st, rs, re, h⟩ := h
  simp only [Mini.evS] at h
  exact h ρ _ H .refl rs .non
theorem s_pass : PS X (.Pass pos) (tS X.K (Mini.evS C .pass)) := ps_pass.imp fun D σ H h => by
  obtain ⟨ρ, env, st, rs, re, h⟩ := h
  simp only [Mini.evS] at h
  exact h ρ σ H .refl rs re
theorem s_brk : PS X (.Break pos) (tS X.K (Mini.evS C .brk)) := ps_break.imp fun D σ H h => by
  obtain ⟨ρ, env, st, rs, re, h⟩ := h
  simp only [Mini.evS] at h
  exact h ρ σ H .refl rs re
theorem s_cont : PS X (.Continue pos) (tS X.K (Mini.evS C .cont)) := ps_continue.imp fun D σ H h => by
  obtain ⟨ρ, env, st, rs, re, h⟩ := h
  simp only [Mini.evS] at h
  exact h ρ σ H .refl rs re
theorem s_ite {mc : Mini.ME} {ma mb : List Mini.MS} {sa sb : List Stmt} (hc : PT X c (tT X.K (Mini.tst C mc))) (ha : PSs X sa (tS X.K (Mini.evSs C ma))) (hb : PSs X sb (tS X.K (Mini.evSs C mb))) : PS X (.If c sa sb pos) (tS X.K (Mini.evS C (.ite mc ma mb))) := by
  refine (ps_if hc ha hb).imp fun D σ H h => ?_
  obtain ⟨ρ, env, st, rs, re, h⟩ := h
  simp only [Mini.evS] at h
  obtain ⟨k, s1, e1, h⟩ := okS_bind h
  refine tT.step rs re e1 fun ρ1 H1 x1 rs1 re1 => ?_
  split at h
  · rename_i hk
    rw [if_pos hk]
    exact ⟨ρ1, env, s1, rs1, re1, h.mono x1⟩
  · rename_i hk
    rw [if_neg hk]
    exact ⟨ρ1, env, s1, rs1, re1, h.mono x1⟩
theorem s_never : PS X st (tS X.K (Mini.evS C .never)) := ps_never.imp fun D σ H h => by
  obtain ⟨ρ, env, st, rs, re, h⟩ := h
  simp only [Mini.evS] at h
  exact h
theorem ss_nil : PSs X [] (tS X.K (Mini.evSs C [])) := pss_nil.imp fun D σ H h => by
  obtain ⟨ρ, env, st, rs, re, h⟩ := h
  simp only [Mini.evSs] at h
  exact h ρ σ H .refl rs re
theorem ss_cons {m : Mini.MS} {ms : List Mini.MS} (h1 : PS X st (tS X.K (Mini.evS C m))) (h2 : PSs X ss (tS X.K (Mini.evSs C ms))) : PSs X (st :: ss) (tS X.K (Mini.evSs C (m :: ms))) := by
  refine (pss_cons h1 h2).imp fun D σ H h => ?_
  obtain ⟨ρ, env, st, rs, re, h⟩ := h
  simp only [Mini.evSs] at h
  obtain ⟨c, s1, e1, h⟩ := okS_bind h
  refine ⟨ρ, env, st, rs, re, ?_⟩
  rw [e1]
  cases c with
  | next e2 => exact fun ρ1 σ1 H1 x1 rs1 re1 => ⟨ρ1, e2, s1, rs1, re1, OkS.mono x1 h⟩
  | brk _ => exact h
  | cont _ => exact h
  | ret _ => exact h
theorem ss_kill {ks : List Nat} {ms : List Mini.MS} (h : PSs X ss (tS X.K (Mini.evSs C ms))) : PSs X ss (tS X.K (Mini.evSs C (.kill ks :: ms))) := h.imp fun D σ H h => by
  obtain ⟨ρ, env, st, rs, re, h⟩ := h
  simp only [Mini.evSs, Mini.evS] at h
  exact ⟨ρ, _, st, rs, re.kill ks, h⟩
/-! loops -/
theorem s_loop {it : Mini.MI} {g : Mini.MG} {iter : Expr} {body : List Stmt} {ms : List Mini.MS} {ks : List Nat} (hp : PassesOwn (model X.prog X.w) X.A X.env X.xe) (hc : X.calm = true) (hi : PID X tg iter (Mini.evI C it)) (hg : PGD X tg g) (hb : PSs X body (tS X.K (Mini.evSs C ms)))
    (hs : ∀ x, foldedSetIterable iter X.env x = pure x) : PS X (.For tg iter body [] pos) (tS X.K (Mini.evS C (.loop g it ms ks))) := by
  obtain ⟨wi, pi, kw⟩ := hi.ok
  obtain ⟨t, pg, kg⟩ := hg.ok
  refine (ps_for hp hc pi pg hb hs).imp fun D σ H h => ?_
  obtain ⟨ρ, env, st, rs, re, h⟩ := h
  simp only [Mini.evS] at h
  obtain ⟨J, s1, e1, h⟩ := okS_bind h
  refine kw σ H _ ρ env st J s1 rs re e1 fun ρ1 H1 T x1 rs1 ir => ?_
  refine ⟨fun i n σ' H' => ∃ ρ' env' st', Ext X.K ρ H ρ' H' ∧ RS X.K H' ρ' st' ∧ RE X.K H' ρ' env' σ' ∧ IRel X.K ρ' H' J T ∧ OkS X.K ρ' H' (Mini.forLoop J _ n i env' st') D, ⟨_, ρ1, _, s1, x1, rs1, (re.mono x1).kill ks, ir, h.mono x1⟩, ?_⟩
  rintro i n σ' H' ⟨ρ', env', st', x2, rs2, re2, ir2, h⟩
  cases n with
  | zero =>
    simp only [Mini.forLoop] at h
    split at h
    · rename_i hstop
      exact .inl ⟨ir2.stop rs2 hstop, h ρ' σ' H' .refl rs2 re2⟩
    · exact h.elim
  | succ n =>
    simp only [Mini.forLoop] at h
    cases eg : J.get st' i with
    | none => rw [eg] at h; exact h.elim
    | some x =>
      rw [eg] at h
      obtain ⟨hgo, hy⟩ := ir2.step rs2 eg
      refine .inr ⟨hgo, fun σ3 H3 => ∃ ρ' env' st', Ext X.K ρ H ρ' H3 ∧ RS X.K H3 ρ' st' ∧ RE X.K H3 ρ' env' σ3 ∧ IRel X.K ρ' H3 J T ∧ OkS X.K ρ' H3 (Mini.forLoop J _ n (i + 1) env' st') D, fun σ3 H3 hN => ⟨n, Nat.lt_succ_self n, hN⟩, fun v H3 hyv => ?_⟩
      obtain ⟨x3, rs3, rv⟩ := hy v H3 hyv
      obtain ⟨c, s4, e4, h⟩ := okS_bind h
      split at e4
      · cases e4
      · rename_i env3 e5
        refine kg v σ' H3 _ ρ' env' env3 x (re2.mono x3) rv e5 fun σ4 re4 => ?_
        obtain ⟨c2, s5, e6, e7⟩ := out_bind e4
        cases e7
        refine ⟨ρ', env3, st', rs3, re4, ?_⟩
        rw [e6]
        cases c2 with
        | next e8 => exact fun ρ6 σ6 H6 x6 rs6 re6 => ⟨ρ6, _, _, (x2.trans x3).trans x6, rs6, re6.kill ks, ir2.mono (x3.trans x6), OkS.mono (x3.trans x6) h⟩
        | cont e8 => exact fun ρ6 σ6 H6 x6 rs6 re6 => ⟨ρ6, _, _, (x2.trans x3).trans x6, rs6, re6.kill ks, ir2.mono (x3.trans x6), OkS.mono (x3.trans x6) h⟩
        | brk e8 => exact fun ρ6 σ6 H6 x6 rs6 re6 => h ρ6 σ6 H6 (x3.trans x6) rs6 (re6.kill ks)
        | ret u => exact fun ρ6 w6 H6 x6 rs6 re6 => h ρ6 w6 H6 (x3.trans x6) rs6 re6
/-- a statement while a dict is locked -/
theorem s_lock {i : Nat} {m : Mini.MS} {stm : Stmt} (h : PS X stm (tS X.K (Mini.evS C m))) : PS X stm (tS X.K (Mini.evS C (.lock i m))) := by
  refine (ps_lock h).imp fun D σ H hw => ?_
  obtain ⟨ρ, env, st, rs, re, hw⟩ := hw
  simp only [Mini.evS] at hw
  split at hw
  · rename_i n ei
    split at hw
    · rename_i kvs e1
      obtain ⟨w, h1, h2⟩ := re.2 i _ ei
      cases h2 with
      | loc h3 =>
        rename_i d
        obtain ⟨xs, h4, h5⟩ := rs.cell _ _ _ e1 h3
        obtain ⟨c, s2, e2, hw⟩ := okS_bind hw
        refine ⟨d, .dK xs, h4, trivial, fun od => ?_⟩
        have x1 : Ext X.K ρ H ρ (upd H d (.frz od (.dK xs))) := ext_setC h4 loose_dK
        refine ⟨ρ, env, st.set n (.rdc kvs), rs.setC e1 rfl rfl h3 h4 loose_dK.w ⟨od, xs, upd_same, h5.mono x1⟩, re.mono x1, ?_⟩
        rw [e2]
        split at hw
        · rename_i l e3
          have un : ∀ {ρ' H'}, Ext X.K ρ (upd H d (.frz od (.dK xs))) ρ' H' → RS X.K H' ρ' s2 → H' d = some (.frz od (.dK xs)) ∧ Ext X.K ρ H ρ' (upd H' d (.dK xs)) ∧ RS X.K (upd H' d (.dK xs)) ρ' (s2.set n (.dct l)) ∧ ExtW X.K ρ' H' ρ' (upd H' d (.dK xs)) := fun {ρ' H'} x2 rs2 => by
            have f1 : H' d = some (.frz od (.dK xs)) := x2.frz d od _ upd_same
            have w1 : ExtW X.K ρ' H' ρ' (upd H' d (.dK xs)) := extW_setC f1 loose_frzK
            have h3' := x2.get h3
            obtain ⟨o2, xs2, g1, g2⟩ := rs2.cell _ _ _ e3 h3'
            rw [f1] at g1
            cases g1
            refine ⟨f1, ⟨x2.pre, fun a ys t => w1.tup a ys (x2.tup a ys (x1.tup a ys t)), fun a o u t => ?_⟩, rs2.setC e3 rfl rfl h3' f1 loose_frzK ⟨xs, upd_same, g2.monoW w1⟩, w1⟩
            have na : a ≠ d := fun z => by
              subst z
              rw [h4] at t
              cases t
            rw [upd_ne na]
            exact x2.frz a o u (x1.frz a o u t)
          have reW : ∀ {ρ' H' σ' e}, ExtW X.K ρ' H' ρ' (upd H' d (.dK xs)) → RE X.K H' ρ' e σ' → RE X.K (upd H' d (.dK xs)) ρ' e σ' := fun {ρ' H' σ' e} w r => ⟨r.1, fun j y hj => by
            obtain ⟨u, q1, q2⟩ := r.2 j y hj
            exact ⟨u, q1, q2.monoW w⟩⟩
          cases c with
          | next e => exact fun ρ' σ' H' x2 rs2 re2 => let ⟨f1, x3, rs3, w1⟩ := un x2 rs2; ⟨f1, hw ρ' σ' _ x3 rs3 (reW w1 re2)⟩
          | cont e => exact fun ρ' σ' H' x2 rs2 re2 => let ⟨f1, x3, rs3, w1⟩ := un x2 rs2; ⟨f1, hw ρ' σ' _ x3 rs3 (reW w1 re2)⟩
          | brk e => exact fun ρ' σ' H' x2 rs2 re2 => let ⟨f1, x3, rs3, w1⟩ := un x2 rs2; ⟨f1, hw ρ' σ' _ x3 rs3 (reW w1 re2)⟩
          | ret u => exact fun ρ' w' H' x2 rs2 rv2 => let ⟨f1, x3, rs3, w1⟩ := un x2 rs2; ⟨f1, hw ρ' w' _ x3 rs3 (rv2.monoW w1)⟩
        · exact hw.elim
    · exact hw.elim
  · exact hw.elim
theorem s_whl {mc : Mini.ME} {body : List Stmt} {ms : List Mini.MS} {ks : List Nat} (hp : PassesOwn (model X.prog X.w) X.A X.env X.xe) (hc : PT X c (tT X.K (Mini.tst C mc))) (hb : PSs X body (tS X.K (Mini.evSs C ms))) : PS X (.While c body [] pos) (tS X.K (Mini.evS C (.whl mc ms ks))) := by
  refine (ps_while hp hc hb).imp fun D σ H h => ?_
  obtain ⟨ρ, env, st, rs, re, h⟩ := h
  simp only [Mini.evS] at h
  refine ⟨fun n σ' H' => ∃ ρ' env' st', Ext X.K ρ H ρ' H' ∧ RS X.K H' ρ' st' ∧ RE X.K H' ρ' env' σ' ∧ OkS X.K ρ' H' (Mini.whlLoop _ _ n env' st') D, ⟨_, ρ, _, st, .refl, rs, re.kill ks, h⟩, ?_⟩
  rintro n σ' H' ⟨ρ', env', st', x2, rs2, re2, h⟩
  cases n with
  | zero => exact h.elim
  | succ n =>
    simp only [Mini.whlLoop] at h
    obtain ⟨k, s1, e1, h⟩ := okS_bind h
    refine tT.step rs2 re2 e1 fun ρ1 H1 x1 rs1 re1 => ?_
    cases k with
    | false =>
      rw [if_neg (by decide)]
      simp only [Bool.false_eq_true, if_false] at h
      exact h ρ1 σ' H1 x1 rs1 re1
    | true =>
      rw [if_pos rfl]
      simp only [if_true] at h
      obtain ⟨c, s4, e4, h⟩ := okS_bind h
      obtain ⟨c2, s5, e6, e7⟩ := out_bind e4
      cases e7
      refine ⟨fun σ3 H3 => ∃ ρ' env' st', Ext X.K ρ H ρ' H3 ∧ RS X.K H3 ρ' st' ∧ RE X.K H3 ρ' env' σ3 ∧ OkS X.K ρ' H3 (Mini.whlLoop _ _ n env' st') D, fun σ3 H3 hN => ⟨n, Nat.lt_succ_self n, hN⟩, ρ1, env', s1, rs1, re1, ?_⟩
      rw [e6]
      cases c2 with
      | next e8 => exact fun ρ6 σ6 H6 x6 rs6 re6 => ⟨ρ6, _, _, (x2.trans x1).trans x6, rs6, re6.kill ks, OkS.mono (x1.trans x6) h⟩
      | cont e8 => exact fun ρ6 σ6 H6 x6 rs6 re6 => ⟨ρ6, _, _, (x2.trans x1).trans x6, rs6, re6.kill ks, OkS.mono (x1.trans x6) h⟩
      | brk e8 => exact fun ρ6 σ6 H6 x6 rs6 re6 => h ρ6 σ6 H6 (x1.trans x6) rs6 (re6.kill ks)
      | ret u => exact fun ρ6 w6 H6 x6 rs6 re6 => h ρ6 w6 H6 (x1.trans x6) rs6 re6
end
end DS
end

section
set_option Elab.async false
set_option linter.all false
set_option maxRecDepth 100000
set_option maxHeartbeats 4000000
/-! DeepSoundA: masks, in, tuple(), sorted(), further methods, attributes. -/
namespace DS
open PySem PySem.Spec PyProof.Rows L2
open Mini (MV Cell Store Out ME MS MI MG)
section
variable {X : L2.Cx}
theorem call_len2 : CallR X (.builtin "len") (fun xs H Q => (∃ p ys, xs = [.ref p] ∧ (SqL X.K H p ys ∨ SqT X.K H p ys) ∧ Q (.int ys.length) H) ∨ ∃ p kvs, xs = [.ref p] ∧ Rd H p (.dK kvs) ∧ Q (.int kvs.length) H) := by
  intro pins s σ H xs us Q I r h
  rcases h with h | ⟨p, kvs, rfl, hd, q⟩
  · exact call_len_seq pins s σ H xs us Q I r h
  · obtain ⟨u, rfl, ru⟩ := vals1 r
    cases ru
    exact d_len I hd fun t s' I' => ⟨.int kvs.length, H, I', ⟨t, rfl⟩, q⟩
theorem bitNot_eq (j : Int) : Builtin.bitNot j = -j - 1 := rfl
theorem band_eq {i j : Int} (h : 0 ≤ i) : Builtin.bitAnd i j = Mini.band i j := by
  unfold Builtin.bitAnd Mini.band
  by_cases hj : 0 ≤ j
  · simp only [decide_eq_true h, decide_eq_true hj, if_pos hj]
  · simp only [decide_eq_true h, decide_eq_false hj, if_neg hj, bitNot_eq]
theorem d_band : OpR X (binaryOp .BitAnd) (R2o X.K fun st x y => Mini.op2 .band x y st) := by
  intro pins s σ H v w a b Q I ra rb h
  obtain ⟨ρ, st, x, y, rs, rx, ry, h⟩ := h
  obtain ⟨i, j, rfl, rfl, h⟩ := int2 (f := fun x y => Mini.op2 .band x y st) (g := fun i j => if 0 ≤ i then .ok (.int (Mini.band i j)) st else .bad) (fun _ _ => rfl) (fun x y z => nint rfl z) rx ry h
  split at h
  · rename_i hc
    rw [← band_eq hc] at h
    exact op_and pins s σ H _ _ a b Q I ra rb ⟨_, _, rfl, rfl, okE_int rs h⟩
  · exact h.elim
theorem d_bor : OpR X (binaryOp .BitOr) (R2o X.K fun st x y => Mini.op2 .bor x y st) := by
  intro pins s σ H v w a b Q I ra rb h
  obtain ⟨ρ, st, x, y, rs, rx, ry, h⟩ := h
  obtain ⟨i, j, rfl, rfl, h⟩ := int2 (f := fun x y => Mini.op2 .bor x y st) (g := fun i j => if 0 ≤ i ∧ 0 ≤ j then .ok (.int (Mini.bor i j)) st else .bad) (fun _ _ => rfl) (fun x y z => nint rfl z) rx ry h
  split at h
  · rename_i hc
    have e : Mini.bor i j = Builtin.bitOr i j := (bitOr_nn hc.1 hc.2).symm
    rw [e] at h
    exact op_or pins s σ H _ _ a b Q I ra rb ⟨_, _, rfl, rfl, okE_int rs h⟩
  · exact h.elim
theorem d_shl : OpR X (binaryOp .LShift) (R2o X.K fun st x y => Mini.op2 .shl x y st) := by
  intro pins s σ H v w a b Q I ra rb h
  obtain ⟨ρ, st, x, y, rs, rx, ry, h⟩ := h
  obtain ⟨i, j, rfl, rfl, h⟩ := int2 (f := fun x y => Mini.op2 .shl x y st) (g := fun i j => if 0 ≤ j ∧ j ≤ 1000000 ∧ i.natAbs < 2 ^ 64 then .ok (.int (i * 2 ^ j.toNat)) st else .bad) (fun _ _ => rfl) (fun x y z => nint rfl z) rx ry h
  split at h
  · rename_i hc
    exact op_shl pins s σ H _ _ a b Q I ra rb ⟨_, _, rfl, rfl, hc, okE_int rs h⟩
  · exact h.elim
theorem d_shr : OpR X (binaryOp .RShift) (R2o X.K fun st x y => Mini.op2 .shr x y st) := by
  intro pins s σ H v w a b Q I ra rb h
  obtain ⟨ρ, st, x, y, rs, rx, ry, h⟩ := h
  obtain ⟨i, j, rfl, rfl, h⟩ := int2 (f := fun x y => Mini.op2 .shr x y st) (g := fun i j => if 0 ≤ j then .ok (.int (i / 2 ^ j.toNat)) st else .bad) (fun _ _ => rfl) (fun x y z => nint rfl z) rx ry h
  split at h
  · rename_i hc
    exact op_shr pins s σ H _ _ a b Q I ra rb ⟨_, _, rfl, rfl, hc, okE_int rs h⟩
  · exact h.elim
/-! in -/
theorem allInts_rv {K : PySem.W.Frag} {ρ : Rho} {H : Hp} : ∀ {l : List MV} {ns : List Int} {xs : List V}, Mini.allInts l = some ns → RVs K H ρ l xs → xs = ns.map V.int
  | [], ns, xs, h, r => by
    cases r
    cases h
    rfl
  | x :: l, ns, xs, h, r => by
    cases x with
    | int i =>
      cases r with
      | cons r1 r2 =>
        cases r1
        simp only [Mini.allInts] at h
        obtain ⟨ms, h1, h2⟩ := Option.map_eq_some_iff.mp h
        subst h2
        rw [allInts_rv h1 r2]
        rfl
    | _ => cases h
theorem inV_ints (i : Int) : ∀ ns : List Int, inV (.int i) (ns.map V.int) = decide (i ∈ ns)
  | [] => rfl
  | n :: ns => by
    show (eqV (.int n) (.int i) || inV (.int i) (ns.map V.int)) = _
    rw [inV_ints i ns]
    have : eqV (.int n) (.int i) = decide (i = n) := by
      show decide (n = i) = _
      exact decide_eq_decide.mpr ⟨Eq.symm, Eq.symm⟩
    rw [this]
    by_cases h : i = n <;> simp [h]
theorem flat_ints (ns : List Int) : (ns.map V.int).all flatV = true := by
  rw [List.all_map, List.all_eq_true]
  intro n _
  rfl
theorem opIn_ok {K : PySem.W.Frag} {ρ : Rho} {H : Hp} {st : Store} {x y : MV} {v w : V} {b : Bool} (rs : RS K H ρ st) (rx : RV K H ρ x v) (ry : RV K H ρ y w) (h : Mini.opIn st x y = some b) :
    (∃ p xs, w = .ref p ∧ (SqL K H p xs ∨ SqT K H p xs) ∧ flatV v = true ∧ xs.all flatV = true ∧ inV v xs = b) ∨ ∃ a o, w = .ref a ∧ DGet H a v o ∧ o.isSome = b := by
  unfold Mini.opIn at h
  split at h
  · cases rx
    cases ry with
    | loc h1 =>
      split at h
      · rename_i e
        obtain ⟨xs, h2, h3⟩ := rs.getD e h1
        cases h
        exact .inr ⟨_, _, rfl, .inl ⟨xs, Sum.inl _, h2, rfl, rfl⟩, h3.none⟩
      · obtain ⟨ns, h2, h3⟩ := Option.map_eq_some_iff.mp h
        obtain ⟨l, h4, h5⟩ := Option.bind_eq_some_iff.mp h2
        obtain ⟨xs, h6, h7⟩ := rs.getL h4 h1
        have e := allInts_rv h5 h7
        subst e
        exact .inl ⟨_, _, rfl, .inl h6, rfl, flat_ints _, by rw [inV_ints]; exact h3⟩
  · cases rx
    cases ry with
    | tup h1 h2 =>
      obtain ⟨ns, h3, h4⟩ := Option.map_eq_some_iff.mp h
      have e := allInts_rv h3 h2
      subst e
      exact .inl ⟨_, _, rfl, .inr h1, rfl, flat_ints _, by rw [inV_ints]; exact h4⟩
  · cases h
theorem op_din (hu : X.A.units + 1 < cLine) : OpR X (compareOp .In) (fun x y H Q => ∃ a o, y = .ref a ∧ DGet H a x o ∧ Q (.bl o.isSome) H) := by
  intro pins s σ H x y v u Q I rx ry h
  obtain ⟨a, o, rfl, g, q⟩ := h
  cases ry
  exact d_in hu I g rx fun s3 I3 => ⟨.bl o.isSome, H, I3, rfl, q⟩
theorem op_dnotin (hu : X.A.units + 1 < cLine) : OpR X (compareOp .NotIn) (fun x y H Q => ∃ a o, y = .ref a ∧ DGet H a x o ∧ Q (.bl (!o.isSome)) H) := by
  intro pins s σ H x y v u Q I rx ry h
  obtain ⟨a, o, rfl, g, q⟩ := h
  cases ry
  exact d_notIn hu I g rx fun s3 I3 => ⟨.bl (!o.isSome), H, I3, rfl, q⟩
theorem d_in2 (hu : X.A.units + 64 < cLine) : OpR X (compareOp .In) (R2o X.K fun st x y => Mini.op2 .inn x y st) := by
  intro pins s σ H v w a b Q I ra rb h
  obtain ⟨ρ, st, x, y, rs, rx, ry, h⟩ := h
  simp only [Mini.op2] at h
  split at h
  · rename_i k e
    refine (op_in_seq.or (op_din (by omega))) pins s σ H _ _ a b Q I ra rb ?_
    rcases opIn_ok rs rx ry e with ⟨p, xs, h1, h2, h3, h4, h5⟩ | ⟨p, o, h1, h2, h3⟩
    · exact .inl ⟨p, xs, h1, h2, h3, h4, by rw [h5]; exact okE_bl rs h⟩
    · exact .inr ⟨p, o, h1, h2, by rw [h3]; exact okE_bl rs h⟩
  · exact h.elim
theorem d_notIn2 (hu : X.A.units + 64 < cLine) : OpR X (compareOp .NotIn) (R2o X.K fun st x y => Mini.op2 .notIn x y st) := by
  intro pins s σ H v w a b Q I ra rb h
  obtain ⟨ρ, st, x, y, rs, rx, ry, h⟩ := h
  simp only [Mini.op2] at h
  split at h
  · rename_i k e
    refine (op_notIn_seq.or (op_dnotin (by omega))) pins s σ H _ _ a b Q I ra rb ?_
    rcases opIn_ok rs rx ry e with ⟨p, xs, h1, h2, h3, h4, h5⟩ | ⟨p, o, h1, h2, h3⟩
    · exact .inl ⟨p, xs, h1, h2, h3, h4, by rw [h5]; exact okE_bl rs h⟩
    · exact .inr ⟨p, o, h1, h2, by rw [h3]; exact okE_bl rs h⟩
  · exact h.elim
end
section
variable {X : L2.Cx} {e a b c : Expr} {es : List Expr} {pos : Pos} {C : Mini.Cx}
theorem m_inv {m : Mini.ME} (ha : PE X a (tE X.K (Mini.evE C m))) : PE X (.UnaryOp .Invert a pos) (tE X.K (Mini.evE C (.prim .inv [m]))) := by
  refine (pe_un un_inv ha).imp fun σ H Q h => ?_
  obtain ⟨ρ, env, st, rs, re, h⟩ := h
  simp only [Mini.evE, Mini.evEs] at h
  obtain ⟨vs, s1, e1, h⟩ := okE_bind h
  obtain ⟨x, s2, e2, e3⟩ := out_bind e1
  simp only [Out.bind_ok] at e3
  cases e3
  refine tE.step rs re e2 fun ρ1 v H1 x1 rs1 re1 rv => ?_
  cases x with
  | int i =>
    cases rv
    exact ⟨i, rfl, okE_int rs1 (h.mono x1)⟩
  | _ => exact h.elim
theorem p_tuple {vs : List V} {H : Hp} {Q : VK} (h : RPo X.K C .tuple vs H Q) : ∃ p ys, vs = [.ref p] ∧ ((SqL X.K H p ys ∧ ∀ l, H l = none → Q (.ref l) (upd H l (.tup ys))) ∨ (SqT X.K H p ys ∧ Q (.ref p) H)) := by
  obtain ⟨ρ, st, ds, rs, rv, h⟩ := h
  unfold Mini.prim at h
  split at h <;> first | contradiction | skip
  · cases rv with
    | cons r1 r2 =>
      cases r2
      cases r1 with
      | loc h1 =>
        split at h
        · rename_i l e
          obtain ⟨xs, h2, h3⟩ := rs.getL e h1
          split at h
          · refine ⟨_, xs, rfl, .inl ⟨h2, fun p hp => ?_⟩⟩
            exact h ρ _ _ (ext_upd hp) (rs.upd_tup hp) (.tup (.inl (.inl upd_same)) (h3.mono (ext_upd hp)))
          · exact h.elim
        · exact h.elim
  · cases rv with
    | cons r1 r2 =>
      cases r2
      cases r1 with
      | tup h2 h3 => exact ⟨_, _, rfl, .inr ⟨h2, h ρ _ H .refl rs (.tup h2 h3)⟩⟩
theorem insI_perm (i : Int) : ∀ l : List Int, (Mini.insI i l).Perm (i :: l)
  | [] => .refl _
  | j :: r => by
    rw [Mini.insI]
    split
    · exact .refl _
    · exact ((insI_perm i r).cons j).trans (.swap i j r)
theorem sortI_perm : ∀ l : List Int, (Mini.sortI l).Perm l
  | [] => .refl _
  | i :: r => (insI_perm i _).trans ((sortI_perm r).cons i)
theorem insI_le (i : Int) : ∀ l : List Int, l.Pairwise (· ≤ ·) → (Mini.insI i l).Pairwise (· ≤ ·)
  | [], _ => by simp [Mini.insI]
  | j :: r, h => by
    rw [Mini.insI]
    rw [List.pairwise_cons] at h
    split
    · rename_i hij
      rw [List.pairwise_cons]
      refine ⟨fun x hx => ?_, List.pairwise_cons.mpr h⟩
      rcases List.mem_cons.mp hx with rfl | hx
      · exact hij
      · exact Int.le_trans hij (h.1 x hx)
    · rename_i hij
      rw [List.pairwise_cons]
      refine ⟨fun x hx => ?_, insI_le i r h.2⟩
      rcases List.mem_cons.mp ((insI_perm i r).mem_iff.mp hx) with rfl | hx
      · omega
      · exact h.1 x hx
theorem sortI_le : ∀ l : List Int, (Mini.sortI l).Pairwise (· ≤ ·)
  | [] => .nil
  | i :: r => insI_le i _ (sortI_le r)
theorem sorted_uniq {l m : List Int} (p : l.Perm m) (hl : l.Pairwise (· ≤ ·)) (hm : m.Pairwise (· ≤ ·)) : l = m :=
  List.Perm.eq_of_pairwise (le := (· ≤ ·)) (fun a b _ _ h g => Int.le_antisymm h g) hl hm p
def rSortedDI : List V → Hp → VK → Prop := fun xs H Q => ∃ (a : Addr) (kvs : List (Key × V)) (ks : List Int), xs = [.ref a] ∧ Rd H a (.dK kvs) ∧ kvs.map (·.1) = ks.map Sum.inl ∧ ks.length < 64 ∧
    ∀ (ys : List Int) (p : Addr), ys.Perm ks → ys.Pairwise (· ≤ ·) → H p = none → Q (.ref p) (upd H p (.lst (ys.map V.int)))
theorem call_sorted2 (hc : X.calm = true) : CallR X (.builtin "sorted") (fun xs H Q => rSorted X.K xs H Q ∨ rSortedDI xs H Q) := by
  intro pins s σ H xs us Q I r h
  rcases h with h | h
  · exact cr_sorted pins s σ H xs us Q I r h
  · exact call_sortedDI hc pins s σ H xs us Q I r h
theorem RD.keys {K : PySem.W.Frag} {ρ : Rho} {H : Hp} : ∀ {l : List (Int × MV)} {kvs : List (Key × V)}, RD K H ρ l kvs → kvs.map (·.1) = (l.map (·.1)).map Sum.inl
  | _, _, .nil => rfl
  | _, _, .cons h t => by
    rw [List.map_cons, List.map_cons, List.map_cons, RD.keys t]
theorem p_sorted {vs : List V} {H : Hp} {Q : VK} (h : RPo X.K C .sorted vs H Q) : rSorted X.K vs H Q ∨ rSortedDI vs H Q := by
  have ri : ∀ (ρ : Rho) (l : List Int), RVs X.K H ρ (l.map .int) (l.map V.int) := fun ρ l => by
    induction l with
    | nil => exact .nil
    | cons n l ih => exact .cons (.int n) ih
  obtain ⟨ρ, st, ds, rs, rv, h⟩ := h
  unfold Mini.prim at h
  split at h <;> first | contradiction | skip
  · cases rv with
    | cons r1 r2 =>
      cases r2
      cases r1 with
      | loc h1 =>
        split at h
        · rename_i ns e
          obtain ⟨l, h4, h5⟩ := Option.bind_eq_some_iff.mp e
          obtain ⟨xs, h2, h3⟩ := rs.getL h4 h1
          have e2 := allInts_rv h5 h3
          subst e2
          split at h
          · rename_i hl
            refine .inl ⟨_, ns, rfl, h2, hl, fun ns' p hp hs hn => ?_⟩
            have e3 : ns' = Mini.sortI ns := sorted_uniq (hp.trans (sortI_perm ns).symm) hs (sortI_le ns)
            subst e3
            exact (OkE.newL h rs (ri _ _)).2 p hn
          · exact h.elim
        · split at h
          · rename_i kvs e
            obtain ⟨xs, h2, h3⟩ := rs.getD e h1
            split at h
            · rename_i hl
              refine .inr ⟨_, xs, kvs.map (·.1), rfl, h2, h3.keys, by rw [List.length_map]; exact hl, fun ns' p hp hs hn => ?_⟩
              have e3 : ns' = Mini.sortI (kvs.map (·.1)) := sorted_uniq (hp.trans (sortI_perm _).symm) hs (sortI_le _)
              subst e3
              exact (OkE.newL h rs (ri _ _)).2 p hn
            · exact h.elim
          · exact h.elim
end
end DS
end

section
set_option Elab.async false
set_option linter.all false
set_option maxRecDepth 100000
set_option maxHeartbeats 4000000
/-! DeepSoundB: attributes, methods, instances. -/
namespace DS
open PySem PySem.Spec PyProof.Rows L2
open Mini (MV Cell Store Out ME MS MI MG)
/-! ### attributes as a list -/
theorem flds_nodup : flds.Nodup := by decide +kernel
theorem flds_inj {f g : Nat} {x : Str} (h : flds[f]? = some x) (k : flds[g]? = some x) : f = g := nodup_ix flds_nodup h k
section
variable {K : PySem.W.Frag} {ρ ρ' : Rho} {H H' : Hp}
theorem RF.get {f : Nat} {x : Str} {d : MV} (hx : flds[f]? = some x) : ∀ {fs : List (Nat × MV)} {xs : List (Str × V)}, RF K H ρ fs xs → fs.lookup f = some d → ∃ v, xs.lookup x = some v ∧ RV K H ρ d v
  | _, _, .nil, h => by cases h
  | (g, e) :: r, (y, v) :: s, .cons hg h t, k => by
    by_cases e2 : f = g
    · subst e2
      rw [hx] at hg
      cases hg
      simp [List.lookup] at k
      subst k
      exact ⟨v, by simp [List.lookup], h⟩
    · have e3 : ¬ x = y := fun z => by
        subst z
        exact e2 (flds_inj hx hg)
      have b1 : (f == g) = false := by simpa using e2
      have b2 : (x == y) = false := by simpa using e3
      simp only [List.lookup, b1] at k
      obtain ⟨u, h1, h2⟩ := RF.get hx t k
      exact ⟨u, by simp only [List.lookup, b2]; exact h1, h2⟩
theorem RF.none {m : Str} (hm : m ∉ flds) : ∀ {fs : List (Nat × MV)} {xs : List (Str × V)}, RF K H ρ fs xs → xs.lookup m = none
  | _, _, .nil => rfl
  | (g, e) :: r, (y, v) :: s, .cons hg h t => by
    have e3 : ¬ m = y := fun z => by
      subst z
      exact hm (List.mem_of_getElem? hg)
    have b2 : (m == y) = false := by simpa using e3
    simp only [List.lookup, b2]
    exact RF.none hm t
theorem RF.len : ∀ {fs : List (Nat × MV)} {xs : List (Str × V)}, RF K H ρ fs xs → fs.length = xs.length
  | _, _, .nil => rfl
  | _, _, .cons _ _ t => congrArg Nat.succ (RF.len t)
theorem RF.put {f : Nat} {x : Str} {d : MV} {v : V} (hx : flds[f]? = some x) (rv : RV K H ρ d v) : ∀ {fs : List (Nat × MV)} {xs : List (Str × V)}, RF K H ρ fs xs → RF K H ρ (Mini.putI f d fs) (putF x v xs)
  | _, _, .nil => .cons hx rv .nil
  | (g, e) :: r, (y, u) :: s, .cons hg h t => by
    simp only [Mini.putI, putF]
    by_cases e2 : g = f
    · subst e2
      rw [hx] at hg
      cases hg
      rw [if_pos rfl, if_pos rfl]
      exact .cons hx rv t
    · have e3 : ¬ y = x := fun z => by
        subst z
        exact e2 (flds_inj hg hx)
      rw [if_neg e2, if_neg e3]
      exact .cons hg h (RF.put hx rv t)
theorem RS.getI {st : Store} {n c : Nat} {fs : List (Nat × MV)} {a : Addr} (r : RS K H ρ st) (h : Mini.getI st n c = some fs) (ha : ρ[n]? = some a) : st[n]? = some (.ins c fs) ∧ ∃ C dx xs, H a = some (.ins C dx xs) ∧ ClsAt K c C ∧ RF K H ρ fs xs := by
  unfold Mini.getI at h
  split at h
  · rename_i h2
    split at h
    · rename_i e
      cases h
      subst e
      exact ⟨h2, r.cell n _ a h2 ha⟩
    · cases h
  · cases h
/-- a new instance -/
theorem RS.newI {st : Store} {c : Nat} {C x dx : Addr} (r : RS K H ρ st) (hc : ClsAt K c C) (hx : H x = none) (hd : H dx = none) (ne : dx ≠ x) :
    RS K (upd (upd H dx (.own x)) x (.ins C dx [])) (ρ ++ [x]) (st ++ [.ins c []]) ∧ Ext K ρ H (ρ ++ [x]) (upd (upd H dx (.own x)) x (.ins C dx [])) := by
  have r1 : RS K (upd H dx (.own x)) ρ st := r.upd_tup hd
  have hx1 : upd H dx (.own x) x = none := by rw [upd_ne (Ne.symm ne)]; exact hx
  exact ⟨r1.newC hx1 ⟨C, dx, [], upd_same, hc, .nil⟩, (ext_upd hd).trans (ext_new hx1)⟩
end
section
variable {X : L2.Cx} {e a b o : Expr} {es : List Expr} {pos apos : Pos} {C : Mini.Cx}
theorem m_att {c f : Nat} {x : Str} {m : ME} {D : Addr} (ha : PE X a (tE X.K (Mini.evE C m))) (hx : flds[f]? = some x) (hD : ClsAt X.K c D) (hc : Cls X.K D) (hn : NoAttr X.K D x) (hb : attributeBase a x X.env (eval a X.env) = eval a X.env) :
    PE X (.Attribute a x pos) (tE X.K (Mini.evE C (.att c f m))) := by
  refine (pe_fld ha hb).imp fun σ H Q h => ?_
  obtain ⟨ρ, env, st, rs, re, h⟩ := h
  simp only [Mini.evE] at h
  obtain ⟨y, s1, e1, h⟩ := okE_bind h
  refine tE.step rs re e1 fun ρ1 v H1 x1 rs1 re1 rv => ?_
  unfold Mini.attV at h
  split at h
  · cases rv with
    | loc h1 =>
      split at h
      · rename_i d e2
        obtain ⟨fs, e3, e4⟩ := Option.bind_eq_some_iff.mp e2
        obtain ⟨_, C2, dx, xs, h2, h3, h4⟩ := rs1.getI e3 h1
        have e5 := ClsAt.uniq h3 hD
        subst e5
        obtain ⟨u, h5, h6⟩ := h4.get hx e4
        exact ⟨_, _, dx, xs, u, rfl, h2, hc, hn, h5, h ρ1 u H1 x1 rs1 h6⟩
      · exact h.elim
  · exact h.elim
theorem s_setAt {c f : Nat} {x : Str} {mo me : ME} {D : Addr} {p2 : Pos} (ho : PE X o (tE X.K (Mini.evE C mo))) (he : PE X e (tE X.K (Mini.evE C me))) (hx : flds[f]? = some x) (hD : ClsAt X.K c D) (hc : Cls X.K D) (hn : NoAttr X.K D x)
    (hs : swapsWith e (some (.Attribute o x p2)) pos.line X.env = pure false) : PS X (.Assign [.Attribute o x p2] e pos) (tS X.K (Mini.evS C (.setAt c f mo me))) := by
  refine (ps_fld ho he hs).imp fun D2 σ H h => ?_
  obtain ⟨ρ, env, st, rs, re, h⟩ := h
  simp only [Mini.evS] at h
  obtain ⟨v, s1, e1, h⟩ := okS_bind h
  refine tE.step rs re e1 fun ρ1 wv H1 x1 rs1 re1 rv => ?_
  obtain ⟨y, s2, e2, h⟩ := okS_bind h
  refine tE.step rs1 re1 e2 fun ρ2 wx H2 x2 rs2 re2 rx => ?_
  obtain ⟨uu, s3, e3, h⟩ := okS_bind h
  unfold Mini.setAttV at e3
  split at e3
  · cases rx with
    | loc h1 =>
      split at e3
      · rename_i fs e4
        split at e3
        · rename_i hl
          cases e3
          obtain ⟨h0, C2, dx, xs, h2, h3, h4⟩ := rs2.getI e4 h1
          have e5 := ClsAt.uniq h3 hD
          subst e5
          refine ⟨_, _, dx, xs, rfl, h2, hc, hn, by rw [← h4.len]; omega, ?_⟩
          refine h ρ2 σ _ ((x1.trans x2).trans (ext_setC h2 loose_ins)) (rs2.setC h0 rfl rfl h1 h2 loose_ins.w ⟨_, dx, _, upd_same, h3, ?_⟩) (re2.mono (ext_setC h2 loose_ins))
          exact (h4.put hx (rv.mono x2)).mono (ext_setC h2 loose_ins)
        · cases e3
      · cases e3
  · cases e3
theorem m_dct0 : PE X (.Dict [] [] pos) (tE X.K (Mini.evE C .dct0)) := by
  refine pe_dnewK.imp fun σ H Q h => ?_
  obtain ⟨ρ, env, st, rs, re, h⟩ := h
  simp only [Mini.evE] at h
  intro p hp
  refine h (ρ ++ [p]) _ _ (ext_new hp) (rs.newC hp ⟨[], upd_same, .nil⟩) (.loc ?_)
  rw [← rs.len]
  simp
/-! methods of lists, of ints -/
theorem isL_of {K : PySem.W.Frag} {ρ : Rho} {H : Hp} {st : Store} {n : Nat} {a : Addr} (r : RS K H ρ st) (h : ρ[n]? = some a) (g : (Mini.getL st n).isSome = true) : ∃ xs, SqL K H a xs := r.isL h g
theorem m_pop {mo me : Mini.ME} (ho : PE X a (tE X.K (Mini.evE C mo))) (he : PE X b (tE X.K (Mini.evE C me))) (hst : starEach [b] X.env = (false, eval b X.env) :: starEach [] X.env)
    (hbase : attributeBase a "pop" X.env (eval a X.env) = eval a X.env) (hfew : ((backTo pos (starEach [b] X.env)).all (fun x => !x.1) && (backToKw pos (keywordEach [] X.env)).all (fun x => x.1.isSome)
      && decide (([b] : List Expr).length + ([] : List Keyword).length + (if ([] : List Keyword).isEmpty then 0 else 1) < 30)) = true) (hline : (apos.endLine == pos.line) = true) :
    PE X (.Call (.Attribute a "pop" apos) [b] [] pos) (tE X.K (Mini.evE C (.meth .pop mo [me]))) := by
  refine (pe_bm PySem.F.plainAttrs_list PySem.F.slot_list_pop PySem.F.type_list_pop mt_popAt ho (pa_cons he pa_nil hst) hbase hfew hline hst).imp fun σ H Q h => ?_
  obtain ⟨ρ, env, st, rs, re, h⟩ := h
  simp only [Mini.evE, Mini.evEs] at h
  obtain ⟨x, s1, e1, h⟩ := okE_bind h
  refine tE.step rs re e1 fun ρ1 v H1 x1 rs1 re1 rv => ?_
  split at h
  case isFalse => exact h.elim
  rename_i hrc
  obtain ⟨vs, s2, e2, h⟩ := okE_bind h
  obtain ⟨y, s, e3, e4⟩ := out_bind e2
  simp only [Out.bind_ok] at e4
  cases e4
  cases x with
  | loc n =>
    cases rv with
    | loc h1 =>
      obtain ⟨xs0, hL⟩ := rs1.isL h1 hrc
      refine ⟨.inl ⟨rfl, xs0, hL⟩, ?_⟩
      refine tE.step rs1 re1 e3 fun ρ2 w H2 x2 rs2 re2 rw' => ?_
      cases y with
      | int i =>
        simp only [Mini.meth] at h
        cases rw'
        split at h
        · rename_i l e4
          split at h
          · rename_i hl
            split at h
            · rename_i d e5
              have h2 := x2.get h1
              obtain ⟨xs, h3, h4⟩ := rs2.getM e4 h2
              obtain ⟨u, h5, h6⟩ := h4.get e5
              have hle : xs.length ≤ 16000000 := by rw [← h4.length]; exact hl.2.2
              refine ⟨_, xs, _, _, u, rfl, rfl, h3, by omega, by have := hl.2.1; rw [h4.length] at this; omega, seqIndex_of hl.1 (by rw [← h4.length]; exact hl.2.1), h5, ?_⟩
              exact h ρ2 u _ ((x1.trans x2).trans (ext_set h3)) (rs2.set e4 h2 h3 (h4.erase _)) (h6.mono (ext_set h3))
            · exact h.elim
          · exact h.elim
        · exact h.elim
      | _ => exact h.elim
  | _ => cases hrc
theorem m_insert {mo me mk : Mini.ME} (ho : PE X a (tE X.K (Mini.evE C mo))) (he : PE X b (tE X.K (Mini.evE C me))) (hk : PE X e (tE X.K (Mini.evE C mk))) (hst : starEach [b, e] X.env = (false, eval b X.env) :: starEach [e] X.env) (hst2 : starEach [e] X.env = (false, eval e X.env) :: starEach [] X.env)
    (hbase : attributeBase a "insert" X.env (eval a X.env) = eval a X.env) (hfew : ((backTo pos (starEach [b, e] X.env)).all (fun x => !x.1) && (backToKw pos (keywordEach [] X.env)).all (fun x => x.1.isSome)
      && decide (([b, e] : List Expr).length + ([] : List Keyword).length + (if ([] : List Keyword).isEmpty then 0 else 1) < 30)) = true) (hline : (apos.endLine == pos.line) = true) (hpl : (backTo pos (starEach [e] X.env)).any (·.1) = false) :
    PE X (.Call (.Attribute a "insert" apos) [b, e] [] pos) (tE X.K (Mini.evE C (.meth .insert mo [me, mk]))) := by
  refine (pe_bm PySem.F.plainAttrs_list PySem.F.slot_list_insert PySem.F.type_list_insert mt_insert ho (pa_cons he (pa_cons hk pa_nil hst2) hst) hbase hfew hline hst hpl).imp fun σ H Q h => ?_
  obtain ⟨ρ, env, st, rs, re, h⟩ := h
  simp only [Mini.evE, Mini.evEs] at h
  obtain ⟨x, s1, e1, h⟩ := okE_bind h
  refine tE.step rs re e1 fun ρ1 v H1 x1 rs1 re1 rv => ?_
  split at h
  case isFalse => exact h.elim
  rename_i hrc
  obtain ⟨vs, s2, e2, h⟩ := okE_bind h
  obtain ⟨y, s3, e3, e4⟩ := out_bind e2
  obtain ⟨ws, s4, e5, e6⟩ := out_bind e4
  obtain ⟨z, s5, e7, e8⟩ := out_bind e5
  simp only [Out.bind_ok] at e8
  cases e8
  cases e6
  cases x with
  | loc n =>
    cases rv with
    | loc h1 =>
      obtain ⟨xs0, hL⟩ := rs1.isL h1 hrc
      refine ⟨.inl ⟨rfl, xs0, hL⟩, ?_⟩
      refine tE.step rs1 re1 e3 fun ρ2 w H2 x2 rs2 re2 rw' => ?_
      refine tE.step rs2 re2 e7 fun ρ3 u H3 x3 rs3 re3 ru => ?_
      cases y with
      | int i =>
        simp only [Mini.meth] at h
        cases rw'
        split at h
        · rename_i l e4
          split at h
          · rename_i hl
            have h2 := x3.get (x2.get h1)
            obtain ⟨xs, h3, h4⟩ := rs3.getM e4 h2
            have hle : xs.length < 16000000 := by rw [← h4.length]; exact hl.2.2
            have hl2 := hl.2.1
            rw [h4.length] at hl2
            refine ⟨_, xs, _, u, rfl, rfl, h3, by rw [sizeLine_eq]; omega, hl.1, by omega, ?_⟩
            rw [List.append_assoc]
            exact h ρ3 .non _ (((x1.trans x2).trans x3).trans (ext_set h3)) (rs3.set e4 h2 h3 ((h4.take _).append (.cons ru (h4.drop _)))) .non
          · exact h.elim
        · exact h.elim
      | _ => exact h.elim
  | _ => cases hrc
theorem m_bits {mo : Mini.ME} (ho : PE X a (tE X.K (Mini.evE C mo))) (hbase : attributeBase a "bit_length" X.env (eval a X.env) = eval a X.env) (hline : (apos.endLine == pos.line) = true) :
    PE X (.Call (.Attribute a "bit_length" apos) [] [] pos) (tE X.K (Mini.evE C (.meth .bitLen mo []))) := by
  refine (pe_bits ho hbase hline).imp fun σ H Q h => ?_
  obtain ⟨ρ, env, st, rs, re, h⟩ := h
  simp only [Mini.evE, Mini.evEs] at h
  obtain ⟨x, s1, e1, h⟩ := okE_bind h
  refine tE.step rs re e1 fun ρ1 v H1 x1 rs1 re1 rv => ?_
  split at h
  case isFalse => exact h.elim
  rename_i hrc
  simp only [Out.bind_ok] at h
  cases x with
  | int i =>
    cases rv
    simp only [Mini.meth] at h
    split at h
    · rename_i hi
      refine ⟨i, rfl, ?_⟩
      have q := okE_int rs1 (h.mono x1)
      have e : ((Builtin.Int.intBits i : Nat) : Int) = if i = 0 then 0 else (i.toNat.log2 : Int) + 1 := by
        unfold Builtin.Int.intBits
        by_cases h0 : i = 0
        · subst h0
          rfl
        · have : (i == 0) = false := by simpa using h0
          have e2 : i.natAbs = i.toNat := by omega
          rw [this, if_neg h0, e2]
          rfl
      rw [e]
      exact q
    · exact h.elim
  | _ => cases hrc
end
/-! ### calls of methods, new instances -/
section
variable {X : L2.Cx} {k n : Nat} {f D : Addr} {fd : FuncData} {ps ks : List Str} {sp : Sp} {dvs : List V} {ds : List Value} {E : XK} {x m : Str} {p pos apos : Pos} {e o : Expr} {es : List Expr} {kws : List Keyword} {ta : TE} {t tk : TA} {g : List Value → List Value → List Value} {gV : List V → List V → List V}
/-- the tree of a method call whose arguments are plain -/
theorem mc_of {A : Around} {Q : Value → Shared → Prop} {E : Value → Shared → Prop} {s : Shared} {pr : Program} {w : PySem.World} {env : Env} (hbase : attributeBase o m env (eval o env) = eval o env)
    (hfew : ((backTo pos (starEach es env)).all (fun x => !x.1) && (backToKw pos (keywordEach kws env)).all (fun x => x.1.isSome) && decide (es.length + kws.length + (if (backToKw pos (keywordEach kws env)).isEmpty then 0 else 1) < 30)) = true) (hline : (apos.endLine == pos.line) = true)
    (h : wpAny (model pr w) A (eval o env) (fun ov s1 => ∀ pl : Sem Bool, wpAny (model pr w) A (getMethod ov m pl) (fun fx s2 => wpAny (model pr w) A (callWith pos fx.1 fx.2 (backTo pos (starEach es env)) (backToKw pos (keywordEach kws env))) Q E s2) E s1) E s) :
    wpAny (model pr w) A (eval (.Call (.Attribute o m apos) es kws pos) env) Q E s := by
  rw [arm_eval_Call, hbase]
  refine wpAny_bind (wpAny_mono h (fun ov s1 h1 => ?_) fun _ _ e => e)
  refine wpAny_bind (wpAny_standAt ?_)
  have hform : methodCallForm (es.length + kws.length) (backTo pos (starEach es env)) (backToKw pos (keywordEach kws env)) = true := hfew
  have hpos : methodCallPos true o env apos pos = pure pos := by unfold methodCallPos; simp [hline]
  unfold methodCall
  rw [hform]
  refine wpAny_bind (wpAny_holding (wpAny_mono (h1 _) (fun fx s2 h2 => ?_) fun _ _ e => e))
  exact wpAny_bind (wpAny_of_eq hpos h2)
theorem pe_methG (he : PE X o ta) (c : Cls X.K D) (hm : Meth X.K D m f) (F : FnG X.prog X.w X.K X.mg X.base k f fd ps sp) (hr : Room k X.A) (hgd : X.A.guards = some []) (hb : Binds X.K fd ps ds) (hd : Vals dvs ds) (ha : PA X (e :: es) t)
    (hbase : attributeBase o m X.env (eval o X.env) = eval o X.env) (hfew : ((backTo pos (starEach (e :: es) X.env)).all (fun x => !x.1) && (backToKw pos (keywordEach [] X.env)).all (fun x => x.1.isSome) && decide ((e :: es).length + ([] : List Keyword).length + (if (backToKw pos (keywordEach [] X.env)).isEmpty then 0 else 1) < 30)) = true)
    (hline : (apos.endLine == pos.line) = true) (hst : starEach (e :: es) X.env = (false, eval e X.env) :: starEach es X.env) (hpl : (backTo pos (starEach es X.env)).any (·.1) = false) :
    PE X (.Call (.Attribute o m apos) (e :: es) [] pos) (tMeth D m sp dvs E ta t) := by
  refine ⟨fun pins s σ H Q I h => ?_⟩
  refine mc_of hbase hfew hline (thn (he.run pins s σ H _ I h) fun u s1 hu pl => ?_)
  obtain ⟨x, H1, I1, rx, a, dx, fs, ex, ea, l, q⟩ := hu
  subst ex
  obtain rfl : u = Value.ref a := rx
  refine getmeth_ok I1 ea c hm l ?_
  refine PySem.W.callWith_K (first := [.ref a]) (h₀ := X.base) I.ok.mod.kin hm.kp (thn (ha.run pos pins s1 σ H1 _ I1 q) fun us s2 hu2 => ?_) hst hpl
  obtain ⟨vs, H2, I2, r, q2⟩ := hu2
  exact ⟨I2.kIn, runG (us := .ref a :: us) (vs := .ref a :: vs) F hr hgd hb hd I2 (.cons rfl r) q2⟩
theorem pe_methG0 (he : PE X o ta) (c : Cls X.K D) (hm : Meth X.K D m f) (F : FnG X.prog X.w X.K X.mg X.base k f fd ps sp) (hr : Room k X.A) (hgd : X.A.guards = some []) (hb : Binds X.K fd ps ds) (hd : Vals dvs ds)
    (hbase : attributeBase o m X.env (eval o X.env) = eval o X.env) (hline : (apos.endLine == pos.line) = true) :
    PE X (.Call (.Attribute o m apos) [] [] pos) (tMeth D m sp dvs E ta tNil) := by
  refine ⟨fun pins s σ H Q I h => ?_⟩
  refine mc_of hbase rfl hline (thn (he.run pins s σ H _ I h) fun u s1 hu pl => ?_)
  obtain ⟨x, H1, I1, rx, a, dx, fs, ex, ea, l, q⟩ := hu
  subst ex
  obtain rfl : u = Value.ref a := rx
  refine getmeth_ok I1 ea c hm l ?_
  exact PySem.W.callWith_K0 (first := [.ref a]) I1.kIn hm.kp (runG (us := [.ref a]) (vs := [.ref a]) F hr hgd hb hd I1 (.cons rfl .nil) q)
/-- o.m(e, .., k = v, ..); n arguments are positional, the instance among them -/
def tMethN (D : Addr) (m : Str) (n l : Nat) (sp : Sp) (gV : List V → List V → List V) (E : XK) (ta : TE) (t tk : TA) : TE := fun σ H Q => ta σ H fun x H1 => ∃ a dx fs, x = .ref a ∧ H1 a = some (.ins D dx fs) ∧ fs.lookup m = none ∧
  t σ H1 fun vs H2 => tk σ H2 fun zs H3 => vs.length + 1 = n ∧ zs.length = l ∧ sp (gV (x :: vs) zs) H3 Q E
theorem pe_methKG (he : PE X o ta) (c : Cls X.K D) (hm : Meth X.K D m f) (F : FnG X.prog X.w X.K X.mg X.base k f fd ps sp) (hr : Room k X.A) (hgd : X.A.guards = some []) (hb : KBn X.K fd ps n ks g gV) (ha : PA X (e :: es) t) (hkw : PK X kws tk)
    (hall : (backToKw pos (keywordEach kws X.env)).all (·.1.isSome) = true) (hks : (backToKw pos (keywordEach kws X.env)).filterMap (·.1) = ks)
    (hbase : attributeBase o m X.env (eval o X.env) = eval o X.env) (hfew : ((backTo pos (starEach (e :: es) X.env)).all (fun x => !x.1) && (backToKw pos (keywordEach kws X.env)).all (fun x => x.1.isSome) && decide ((e :: es).length + kws.length + (if (backToKw pos (keywordEach kws X.env)).isEmpty then 0 else 1) < 30)) = true)
    (hline : (apos.endLine == pos.line) = true) (hst : starEach (e :: es) X.env = (false, eval e X.env) :: starEach es X.env)
    (hpl : ((backTo pos (starEach (e :: es) X.env)).any (·.1) || (backToKw pos (keywordEach kws X.env)).any (·.1.isNone)) = false) :
    PE X (.Call (.Attribute o m apos) (e :: es) kws pos) (tMethN D m n ks.length sp gV E ta t tk) := by
  refine ⟨fun pins s σ H Q I h => ?_⟩
  refine mc_of hbase hfew hline (thn (he.run pins s σ H _ I h) fun u s1 hu pl => ?_)
  obtain ⟨x, H1, I1, rx, a, dx, fs, ex, ea, l, q⟩ := hu
  subst ex
  obtain rfl : u = Value.ref a := rx
  refine getmeth_ok I1 ea c hm l ?_
  refine PySem.W.callWith_KW (first := [.ref a]) (h₀ := X.base) I.ok.mod.kin hm.kp hall (thn (ha.run pos pins s1 σ H1 _ I1 q) fun us s2 hu2 => ?_) hpl hst
  obtain ⟨vs, H2, I2, r, q2⟩ := hu2
  refine thn (hkw.run pos pins s2 σ H2 _ I2 q2) fun ws s3 hu3 => ?_
  obtain ⟨zs, H3, I3, rz, l1, l2, q3⟩ := hu3
  refine ⟨I3.kIn, ?_⟩
  rw [hks]
  refine wpAny_call (codeAny_mono (F.run X.A X.stack s3 H3 ⟨Value.ref a :: us, ks.zip ws⟩ (g (Value.ref a :: us) ws) (gV (V.ref a :: vs) zs) Q E hr hgd I3.env0 (hb.to s3 (Value.ref a :: us) ws I3.kIn (by rw [List.length_cons, ← r.length]; exact l1) (rz.length.symm.trans l2)) (hb.rel (us := Value.ref a :: us) (vs := V.ref a :: vs) (Paired.cons (F := RelV) (a := V.ref a) (b := Value.ref a) rfl r) rz) q3) fun r s' hq => ?_)
  match r, hq with
  | .error e, hq => exact hq.elim
  | .ok (.ret u), hq => exact I3.after hq
theorem run_makeG {pins : List (Addr × Obj)} {σ : L2.St} {H : Hp} {s : Shared} {Q : VK} {us : List Value} {vs : List V} (M : Mk X.K D f) (F : FnG X.prog X.w X.K X.mg X.base k f fd ps sp) (hr : Room (k + 1) X.A) (hgd : X.A.guards = some []) (hb : Binds X.K fd ps ds) (hd : Vals dvs ds)
    (I : Inv X pins σ H s) (r : Vals vs us)
    (h : ∀ x dx, H x = none → H dx = none → dx ≠ x → sp (.ref x :: (vs ++ dvs)) (upd (upd H dx (.own x)) x (.ins D dx [])) (fun v H2 => v = .non ∧ Q (.ref x) H2) E) :
    wpAny (model X.prog X.w) X.A (call (.ref D) us) (EP X pins σ Q) X.xe s := by
  have hq := h (s.heap.objs.size + 1) s.heap.objs.size (I.hok.fresh (Nat.le_succ _)) (I.hok.fresh (Nat.le_refl _)) (Nat.ne_of_lt (Nat.lt_succ_self _))
  have I2 := Inv.made (C := D) I
  have r2 : Vals (V.ref (s.heap.objs.size + 1) :: (vs ++ dvs)) (Value.ref (s.heap.objs.size + 1) :: (us ++ ds)) := .cons rfl (r.append hd)
  have hl : (Value.ref (s.heap.objs.size + 1) :: us ++ ds).length = ps.length := by
    have e := r2.length
    rw [F.len _ _ _ _ hq] at e
    exact e.symm
  have hgd2 : (X.A.under (.builtin "type.__call__" ⟨.ref D :: us, []⟩)).guards = some [] := hgd
  refine wpAny_call (make_map (f := f) I.kIn M.makes M.init (beq_iff_eq.mp M.fn) (codeAny_mono (F.run _ X.stack _ _ ⟨Value.ref (s.heap.objs.size + 1) :: us, []⟩ (Value.ref (s.heap.objs.size + 1) :: (us ++ ds)) _ _ E (hr.make D us []) hgd2
    (I2.env0.make D us []) (hb _ (Value.ref (s.heap.objs.size + 1) :: us) I2.kIn hl) r2 hq) fun r s' hq' => ?_))
  match r, hq' with
  | .error e, hq' => exact hq'.elim
  | .ok (.ret u), hq' =>
    obtain ⟨v, H', I3, rv, ev, q3⟩ := I2.after hq'
    subst ev
    exact ⟨rv, ⟨V.ref (s.heap.objs.size + 1), H', I3, rfl, q3⟩⟩
theorem pe_makeG (M : Mk X.K D f) (F : FnG X.prog X.w X.K X.mg X.base k f fd ps sp) (hr : Room (k + 1) X.A) (hgd : X.A.guards = some []) (hg : Gl X x) (hm : X.mg x = some (.ref D)) (hb : Binds X.K fd ps ds) (hd : Vals dvs ds)
    (ha : PA X (e :: es) t) (hdb : (x == ("__debug__" : Str)) = false) (he : starEach (e :: es) X.env = (false, eval e X.env) :: starEach es X.env) (hpl : (backTo pos (starEach es X.env)).any (·.1) = false) :
    PE X (.Call (.Name x p) (e :: es) [] pos) (tMake D sp dvs E t) := by
  refine ⟨fun pins s σ H Q I h => ?_⟩
  refine wpAny_Call_Name_kw (ld_glob I hg hm ?_ hdb)
  refine PySem.W.callWith_K (h₀ := X.base) I.ok.mod.kin M.kp (thn (ha.run pos pins s σ H _ I h) fun us s1 hu => ?_) he hpl
  obtain ⟨vs, H1, I1, r, q⟩ := hu
  exact ⟨I1.kIn, run_makeG M F hr hgd hb hd I1 r q⟩
theorem pe_makeG0 (M : Mk X.K D f) (F : FnG X.prog X.w X.K X.mg X.base k f fd ps sp) (hr : Room (k + 1) X.A) (hgd : X.A.guards = some []) (hg : Gl X x) (hm : X.mg x = some (.ref D)) (hb : Binds X.K fd ps ds) (hd : Vals dvs ds)
    (hdb : (x == ("__debug__" : Str)) = false) : PE X (.Call (.Name x p) [] [] pos) (tMake D sp dvs E tNil) := by
  refine ⟨fun pins s σ H Q I h => ?_⟩
  refine wpAny_Call_Name_kw (ld_glob I hg hm ?_ hdb)
  exact PySem.W.callWith_K0 I.kIn M.kp (run_makeG (us := []) M F hr hgd hb hd I .nil h)
/-- x in o, o an instance with an own __contains__ -/
def rOwn (D : Addr) (sp : Sp) (E : XK) (neg : Bool) : R2 := fun x y H Q => ∃ a dx fs, y = .ref a ∧ H a = some (.ins D dx fs) ∧ sp [y, x] H (fun v H' => ∃ b, v = .bl b ∧ Q (.bl (if neg then !b else b)) H') E
theorem runOwn {pins : List (Addr × Obj)} {σ : L2.St} {H : Hp} {s : Shared} {a : Addr} {x : V} {u : Value} {Q : VK} {neg : Bool} (F : FnG X.prog X.w X.K X.mg X.base k f fd ps sp) (hr : Room k X.A) (hgd : X.A.guards = some []) (hb : Binds X.K fd ps []) (I : Inv X pins σ H s) (rx : RelV x u)
    (h : sp [.ref a, x] H (fun v H' => ∃ b, v = .bl b ∧ Q (.bl (if neg then !b else b)) H') E) :
    wpAny (model X.prog X.w) X.A (call (.ref f) [.ref a, u]) (fun r s' => wpAny (model X.prog X.w) X.A (truthy r) (fun b => EP X pins σ Q (.bool (if neg then !b else b))) X.xe s') X.xe s := by
  refine wpAny_mono (runG (us := [Value.ref a, u]) (vs := [V.ref a, x]) (dvs := []) F hr hgd hb .nil I (.cons (F := RelV) (a := V.ref a) (b := Value.ref a) rfl (.cons rx .nil)) h) (fun r s' hr' => ?_) fun _ _ z => z
  obtain ⟨w, H', I', rw', b, rfl, q⟩ := hr'
  cases rw'
  exact wpAny_truthy_bool ⟨.bl (if neg then !b else b), H', I', rfl, q⟩
theorem op_own (neg : Bool) (hm : Meth X.K D "__contains__" f) (F : FnG X.prog X.w X.K X.mg X.base k f fd ps sp) (hr : Room k X.A) (hgd : X.A.guards = some []) (hb : Binds X.K fd ps []) : OpR X (compareOp (if neg then .NotIn else .In)) (rOwn D sp E neg) := by
  intro pins s σ H x y v u Q I rx ry h
  obtain ⟨a, dx, fs, rfl, ha, h⟩ := h
  cases ry
  obtain ⟨mA, J, _⟩ := ins_get I.hok ha
  obtain ⟨od, J, _⟩ := J.look
  obtain ⟨m, hF⟩ := I.fr
  have z := runOwn (neg := neg) F hr hgd hb I rx h
  cases neg with
  | false => exact PySem.W.in_K hF I.ok.mod.kin J hm.at_ hm.fn z
  | true => exact PySem.W.notIn_K hF I.ok.mod.kin J hm.at_ hm.fn z
end
/-! ### dict comprehensions, tuple(range(..)) -/
theorem dc_deep {K : PySem.W.Frag} {C : Mini.Cx} {i : Nat} {mk mv : Mini.ME} {wi : TI} {ev : Mini.Env → Store → Out Mini.Iter} (hw : ∀ (σ : L2.St) (H : Hp) (R : It → Hp → Prop) (ρ : Rho) (env : Mini.Env) (st : Store) (J : Mini.Iter) (s : Store), RS K H ρ st → RE K H ρ env σ → ev env st = .ok J s →
      (∀ ρ1 H1 T, Ext K ρ H ρ1 H1 → RS K H1 ρ1 s → IRel K ρ1 H1 J T → R T H1) → wi σ H R) {σ : L2.St} {H : Hp} {Q : VK}
    (h : tE K (fun env st => (ev env st).bind fun J s2 => Mini.dcRun J (fun w s => match Mini.setG (.nm i) w env with
      | none => .bad
      | some env2 => (Mini.evE C mk env2 s).bind fun a s3 => (Mini.evE C mv env2 s3).bind fun b s4 => .ok (a, b) s4) s2) σ H Q) :
    tDc wi (gName i) (tT K (Mini.tsts C [])) (tE K (Mini.evE C mk)) (tE K (Mini.evE C mv)) [i] σ H Q := by
  obtain ⟨ρ, env, st, rs, re, h⟩ := h
  obtain ⟨J, s2, e1, h⟩ := okE_bind h
  refine hw σ H _ ρ env st J s2 rs re e1 fun ρ1 H1 T x1 rs1 ir D hD => ?_
  unfold Mini.dcRun at h
  have hDn : (ρ1 ++ [D])[s2.length]? = some D := by rw [← rs1.len]; simp
  refine ⟨fun i' n H' => ∃ ρ' st', Ext K ρ H ρ' H' ∧ RS K H' ρ' st' ∧ ρ'[s2.length]? = some D ∧ IRel K ρ' H' J T ∧ OkE K ρ' H' (Mini.dcLoop J s2.length _ n i' st') Q,
    ⟨_, ρ1 ++ [D], _, x1.trans (ext_new hD), rs1.newC (c0 := .dct []) hD ⟨[], upd_same, .nil⟩, hDn, ir.mono (ext_new hD), h.mono (x1.trans (ext_new hD))⟩, ?_⟩
  rintro i' n H' ⟨ρ', st', x2, rs2, hd, ir2, h⟩
  cases n with
  | zero =>
    simp only [Mini.dcLoop] at h
    split at h
    · rename_i hs
      exact .inl ⟨ir2.stop rs2 hs, h ρ' _ H' .refl rs2 (.loc hd)⟩
    · exact h.elim
  | succ n =>
    simp only [Mini.dcLoop] at h
    cases eg : J.get st' i' with
    | none => rw [eg] at h; exact h.elim
    | some x =>
      rw [eg] at h
      obtain ⟨hgo, hy⟩ := ir2.step rs2 eg
      refine .inr ⟨hgo, fun H3 => ∃ ρ' st', Ext K ρ H ρ' H3 ∧ RS K H3 ρ' st' ∧ ρ'[s2.length]? = some D ∧ IRel K ρ' H3 J T ∧ OkE K ρ' H3 (Mini.dcLoop J s2.length _ n (i' + 1) st') Q, fun H3 hN => ⟨n, Nat.lt_succ_self n, hN⟩, fun v H3 hyv => ?_⟩
      obtain ⟨x3, rs3, rv⟩ := hy v H3 hyv
      have re3 : RE K H3 ρ' (env.set i (some x)) ((wipe σ [i]).set i (some v)) := (re.mono (x2.trans x3)).setW i rv
      refine ⟨?_, ?_⟩
      · show ((σ.set i none).set i (some v)).set i none = σ.set i none
        rw [List.set_set, List.set_set]
      · obtain ⟨r, s4, e4, h⟩ := okE_bind h
        simp only [Mini.setG] at e4
        obtain ⟨a, s5, e5, e6⟩ := out_bind e4
        obtain ⟨b, s6, e7, e8⟩ := out_bind e6
        cases e8
        refine ⟨ρ', _, st', rs3, re3, ?_⟩
        show OkB K ρ' H3 (Mini.tsts C [] (env.set i (some x)) st') _
        simp only [Mini.tsts]
        intro ρ4 H4 x4 rs4
        rw [if_pos rfl]
        have re4 := re3.mono x4
        refine tE.step rs4 re4 e5 fun ρ5 w5 H5 x5 rs5 re5 rw5 => ?_
        refine tE.step rs5 re5 e7 fun ρ6 w6 H6 x6 rs6 re6 rw6 => ?_
        obtain ⟨uu, s7, e9, h⟩ := okE_bind h
        unfold Mini.putTo at e9
        split at e9
        · rename_i k kvs ek el
          split at e9
          · rename_i hl
            cases e9
            have ha : a = .int k := ek
            subst ha
            cases rw5
            have hd6 := x6.get (x5.get (x4.get hd))
            obtain ⟨acc, a1, a2⟩ := rs6.cell _ _ _ el hd6
            have xx := ext_setC (K := K) (ρ := ρ6) (o := .dK (putK acc (Sum.inl k) w6)) a1 loose_dK
            refine ⟨acc, Sum.inl k, rfl, a1, by rw [← a2.len]; exact len_lt hl, ρ6, _, ((x2.trans x3).trans (x4.trans (x5.trans x6))).trans xx, rs6.setC (c' := .dct _) el rfl rfl hd6 a1 loose_dK.w ⟨_, upd_same, (a2.put rw6).mono xx⟩, hd6, ir2.mono ((x3.trans (x4.trans (x5.trans x6))).trans xx), ?_⟩
            exact OkE.mono ((x3.trans (x4.trans (x5.trans x6))).trans xx) h
          · cases e9
        · cases e9
section
variable {X : L2.Cx} {e a b o : Expr} {es : List Expr} {pos p2 p3 p4 : Pos} {C : Mini.Cx}
theorem rgL_rv {K : PySem.W.Frag} {ρ : Rho} {H : Hp} (i j : Int) : RVs K H ρ (Mini.rgL i j) (rgV i j) := by
  unfold Mini.rgL rgV
  generalize List.range (j - i).toNat = l
  induction l with
  | nil => exact .nil
  | cons n l ih => exact .cons (.int _) ih
theorem m_tupR {ma mb : ME} (hc : X.calm = true) (hg : Gl X "tuple") (hm : X.mg "tuple" = none) (hg2 : Gl X "range") (hm2 : X.mg "range" = none) (ha : PE X a (tE X.K (Mini.evE C ma))) (hb : PE X b (tE X.K (Mini.evE C mb))) (h1 : starEach [a, b] X.env = (false, eval a X.env) :: starEach [b] X.env)
    (h2 : starEach [b] X.env = (false, eval b X.env) :: starEach [] X.env) : PE X (.Call (.Name "tuple" p2) [.Call (.Name "range" p3) [a, b] [] p4] [] pos) (tE X.K (Mini.evE C (.tupR ma mb))) := by
  refine (pe_tupRg hc hg hm (prg_2 hg2 hm2 ha hb h1 h2 (by rw [h2]; rfl))).imp fun σ H Q h => ?_
  obtain ⟨ρ, env, st, rs, re, h⟩ := h
  simp only [Mini.evE] at h
  obtain ⟨x, s1, e1, h⟩ := okE_bind h
  refine tE.step rs re e1 fun ρ1 v H1 x1 rs1 re1 rv => ?_
  obtain ⟨y, s2, e2, h⟩ := okE_bind h
  refine tE.step rs1 re1 e2 fun ρ2 w H2 x2 rs2 re2 rw' => ?_
  cases x with
  | int i =>
    cases y with
    | int j =>
      cases rv
      cases rw'
      simp only [Mini.mkTupR] at h
      split at h
      · rename_i hc
        refine ⟨i, j, rfl, rfl, ⟨by omega, by omega, by omega, by omega, by omega⟩, fun q hq => ?_⟩
        exact h ρ2 _ _ ((x1.trans x2).trans (ext_upd hq)) (rs2.upd_tup hq) (.tup (.inl (.inl upd_same)) (rgL_rv i j))
      · exact h.elim
    | _ => exact h.elim
  | _ => cases y <;> exact h.elim
end
end DS
end

section
set_option Elab.async false
set_option linter.all false
set_option maxRecDepth 100000
set_option maxHeartbeats 4000000
/-! DeepSound6: the look (does this Mini text say what that Python text says?), and that what it lets by is sound. -/
namespace DS
open PySem PySem.Spec PyProof.Rows L2
open Mini (MV Cell Store Out ME MS MI MG)
/-! ### more calls -/
section
variable {X : L2.Cx} {k : Nat} {f : Addr} {fd : FuncData} {ps ks : List Str} {sp : Sp} {E : XK} {x : Str} {p pos : Pos} {e : Expr} {es : List Expr} {kws : List Keyword} {t tk : TA} {g : List Value → List Value → List Value} {gV : List V → List V → List V}
theorem pe_callKG {n : Nat} (F : FnG X.prog X.w X.K X.mg X.base k f fd ps sp) (hr : Room k X.A) (hgd : X.A.guards = some []) (hg : Gl X x) (hm : X.mg x = some (.ref f)) (hk : PySem.W.keepIn X.K (.ref f) = true) (hb : KBn X.K fd ps n ks g gV)
    (ha : PA X (e :: es) t) (hkw : PK X kws tk) (hall : (backToKw pos (keywordEach kws X.env)).all (·.1.isSome) = true) (hks : (backToKw pos (keywordEach kws X.env)).filterMap (·.1) = ks)
    (hdb : (x == ("__debug__" : Str)) = false) (he : starEach (e :: es) X.env = (false, eval e X.env) :: starEach es X.env)
    (hpl : ((backTo pos (starEach (e :: es) X.env)).any (·.1) || (backToKw pos (keywordEach kws X.env)).any (·.1.isNone)) = false) :
    PE X (.Call (.Name x p) (e :: es) kws pos) (tCallN n ks.length sp gV E t tk) := by
  refine ⟨fun pins s σ H Q I h => ?_⟩
  have one : ∀ us s1, AP X pins σ (fun vs H1 => tk σ H1 fun zs H2 => vs.length = n ∧ zs.length = ks.length ∧ sp (gV vs zs) H2 Q E) us s1 → wpAny (model X.prog X.w) X.A (evalAll ((backToKw pos (keywordEach kws X.env)).map (·.2))) (fun ws s2 => X.K.In s2.heap ∧ wpAny (model X.prog X.w) X.A (call (.ref f) us (((backToKw pos (keywordEach kws X.env)).filterMap (·.1)).zip ws)) (EP X pins σ Q) X.xe s2) X.xe s1 :=
    fun us s1 ⟨vs, H1, I1, r, q⟩ => thn (hkw.run pos pins s1 σ H1 _ I1 q) fun ws s2 ⟨zs, H2, I2, rz, l1, l2, q2⟩ => ⟨I2.kIn, by
      rw [hks]
      refine wpAny_call (codeAny_mono (F.run X.A X.stack s2 H2 ⟨us, ks.zip ws⟩ (g us ws) (gV vs zs) Q E hr hgd I2.env0 (hb.to s2 us ws I2.kIn (r.length.symm.trans l1) (rz.length.symm.trans l2)) (hb.rel r rz) q2) fun r s' hq => ?_)
      match r, hq with
      | .error e, hq => exact hq.elim
      | .ok (.ret u), hq => exact I2.after hq⟩
  exact wpAny_Call_Name_kw (ld_glob I hg hm (PySem.W.callWith_KW (h₀ := X.base) I.ok.mod.kin hk hall (thn (ha.run pos pins s σ H _ I h) one) hpl he) hdb)
end
/-! ### what is known around -/
structure Tab where
  fns : List Str
  blts : List Str
  /-- a def, and the constants that stand for the arguments left out at the end -/
  modes : List (Nat × List MV)
  /-- a def, the keywords written, and what fills the places behind the positional ones: a constant or the next keyword -/
  kmodes : List (Nat × Nat × List Str × List (Option MV))
  /-- classes and their instances' fields -/
  atts : List (Nat × Nat)
  /-- a class, a method's name, its def, the constants at the end -/
  meths : List (Nat × Str × Nat × List MV)
  /-- .., the positional arguments (the instance among them), the keywords, what fills the other places -/
  kmeths : List (Nat × Str × Nat × Nat × List Str × List (Option MV))
  /-- a class, the def of its __init__, the constants at the end -/
  mks : List (Nat × Nat × List MV)
structure Sc where
  N : List Str
  sc : Scope
  own : List Str
/-- a constant of Mini as a value -/
def CV : MV → V → Prop
  | .non, v => v = .non
  | .bl b, v => v = .bl b
  | .int i, v => v = .int i
  | _, _ => False
theorem CV.rv {K : PySem.W.Frag} {H : Hp} {ρ : Rho} {d : MV} {v : V} (h : CV d v) : RV K H ρ d v := by
  cases d with
  | non => cases h; exact .non
  | bl b => cases h; exact .bl b
  | int i => cases h; exact .int i
  | _ => exact h.elim
def CVs : List MV → List V → Prop := Paired CV
theorem CVs.rv {K : PySem.W.Frag} {H : Hp} {ρ : Rho} : ∀ {d : List MV} {v : List V}, CVs d v → RVs K H ρ d v
  | _, _, .nil => .nil
  | _, _, .cons h r => .cons h.rv (CVs.rv r)
def fillIn {α : Type} : List (Option α) → List α → List α
  | [], _ => []
  | some c :: r, zs => c :: fillIn r zs
  | none :: r, z :: zs => z :: fillIn r zs
  | none :: _, [] => []
structure Good (T : Tab) (W : Mini.World) (k : Nat) (S : Sc) (X : L2.Cx) : Prop where
  hN : X.N = S.N
  nd : X.N.Nodup
  sc : X.env.scope = S.sc
  fn : ∀ x, x ∈ S.own → X.fn x = true
  calm : X.calm = true
  room : Room (2 * k + 1) X.A
  gd : X.A.guards = some []
  hp : PassesOwn (model X.prog X.w) X.A X.env X.xe
  bl : ∀ x, x ∈ T.blts → X.mg x = none
  fns : ∀ (f : Nat) (x : Str) (dl : List MV), T.fns[f]? = some x → (f, dl) ∈ T.modes → ∃ a fd ps ds dvs, X.mg x = some (.ref a) ∧ PySem.W.keepIn X.K (.ref a) = true ∧ Binds X.K fd ps ds ∧ Vals dvs ds ∧ CVs dl dvs ∧
    FnG X.prog X.w X.K X.mg X.base (2 * k) a fd ps (spD X.K W k f)
  kfns : ∀ (f n : Nat) (x : Str) (ks : List Str) (fl : List (Option MV)), T.fns[f]? = some x → (f, n, ks, fl) ∈ T.kmodes → ∃ a fd ps g fv, X.mg x = some (.ref a) ∧ PySem.W.keepIn X.K (.ref a) = true ∧ KBn X.K fd ps n ks g (fun vs zs => vs ++ fillIn fv zs) ∧
    Paired (fun (d : Option MV) (v : Option V) => match d, v with | some d, some v => CV d v | none, none => True | _, _ => False) fl fv ∧ FnG X.prog X.w X.K X.mg X.base (2 * k) a fd ps (spD X.K W k f)
  atts : ∀ (c f : Nat) (x : Str), (c, f) ∈ T.atts → flds[f]? = some x → ∃ D, ClsAt X.K c D ∧ Cls X.K D ∧ NoAttr X.K D x
  meths : ∀ (c : Nat) (m : Str) (f : Nat) (dl : List MV), (c, m, f, dl) ∈ T.meths → ∃ D a fd ps ds dvs, ClsAt X.K c D ∧ Cls X.K D ∧ Meth X.K D m a ∧ Binds X.K fd ps ds ∧ Vals dvs ds ∧ CVs dl dvs ∧ FnG X.prog X.w X.K X.mg X.base (2 * k) a fd ps (spD X.K W k f)
  kmeths : ∀ (c : Nat) (m : Str) (f n : Nat) (ks : List Str) (fl : List (Option MV)), (c, m, f, n, ks, fl) ∈ T.kmeths → ∃ D a fd ps g fv, ClsAt X.K c D ∧ Cls X.K D ∧ Meth X.K D m a ∧ KBn X.K fd ps n ks g (fun vs zs => vs ++ fillIn fv zs) ∧
    Paired (fun (d : Option MV) (v : Option V) => match d, v with | some d, some v => CV d v | none, none => True | _, _ => False) fl fv ∧ FnG X.prog X.w X.K X.mg X.base (2 * k) a fd ps (spD X.K W k f)
  mks : ∀ (c f : Nat) (dl : List MV), (c, f, dl) ∈ T.mks → ∃ D x a fd ps ds dvs, clss[c]? = some x ∧ X.mg x = some (.ref D) ∧ ClsAt X.K c D ∧ Mk X.K D a ∧ Binds X.K fd ps ds ∧ Vals dvs ds ∧ CVs dl dvs ∧ FnG X.prog X.w X.K X.mg X.base (2 * k) a fd ps (spD X.K W k f)
/-! ### the look -/
def isVis (sc : Scope) (x : Str) : Bool := match sc.names.lookup x with
  | some .local => true
  | some .cell => true
  | some .free => true
  | _ => false
def isGl (sc : Scope) (x : Str) : Bool := match sc.names.lookup x with
  | some .globalImplicit => true
  | _ => false
def okName (x : Str) : Bool := !(x == ("__debug__" : Str)) && !(x == ("__classdict__" : Str)) && !decide (x = ("__name__" : Str))
def slotOk (S : Sc) (x : Str) (i : Nat) : Bool := decide (S.N[i]? = some x) && isVis S.sc x && okName x
def isLocal (S : Sc) (x : Str) : Bool := match S.sc.names.lookup x with
  | some .local => true
  | some .cell => decide (x ∈ S.own)
  | _ => false
def tgtOk (S : Sc) (x : Str) (i : Nat) : Bool := decide (S.N[i]? = some x) && isLocal S x
def plainE : Expr → Bool
  | .Starred _ _ => false
  | _ => true
def notSlice : Expr → Bool
  | .Slice _ _ _ _ => false
  | _ => true
def notSet : Expr → Bool
  | .Set _ _ _ => false
  | _ => true
def notComp : Expr → Bool
  | .ListComp _ _ _ _ => false
  | .SetComp _ _ _ _ => false
  | .DictComp _ _ _ _ _ => false
  | _ => true
def notCall : Expr → Bool
  | .Call _ _ _ _ => false
  | _ => true
def binOk : Operator → Mini.Op2 → Bool
  | .Add, .add => true
  | .Sub, .sub => true
  | .Mult, .mul => true
  | .FloorDiv, .fdiv => true
  | .Mod, .mod => true
  | .Pow, .pow => true
  | .BitAnd, .band => true
  | .BitOr, .bor => true
  | .LShift, .shl => true
  | .RShift, .shr => true
  | _, _ => false
def cmpOk : CmpOp → Mini.Op2 → Bool
  | .Eq, .eq => true
  | .NotEq, .ne => true
  | .Lt, .lt => true
  | .LtE, .le => true
  | .Gt, .gt => true
  | .GtE, .ge => true
  | .Is, .isN => true
  | .IsNot, .notN => true
  | .In, .inn => true
  | .NotIn, .notIn => true
  | _, _ => false
def primName : Mini.Prim → Str
  | .len => "len" | .abs => "abs" | .int => "int" | .max2 => "max" | .min2 => "min" | .list => "list" | .repr => "repr" | .min1 => "min" | .tuple => "tuple" | .sorted => "sorted"
  | _ => ""
def primArity : Mini.Prim → Nat
  | .max2 => 2 | .min2 => 2
  | _ => 1
def isiName : Mini.Prim → Option Str
  | .isInt => some "int" | .isBool => some "bool" | .isList => some "list" | .isTuple => some "tuple" | .isStr => some "str"
  | _ => none
def blkSc (S : Sc) (scope : Scope) (x : Str) : Sc := ⟨S.N, relS scope S.sc, (match scope.names.lookup x with
  | some .cell => [x]
  | _ => [])⟩
def isCon : ME → MV → Bool
  | .con .non, .non => true
  | .con (.bl a), .bl b => a == b
  | .con (.int a), .int b => decide (a = b)
  | _, _ => false
def consOk : List ME → List MV → Bool
  | [], [] => true
  | m :: r, c :: t => isCon m c && consOk r t
  | _, _ => false
def findMode (T : Tab) (f : Nat) (l : List ME) : Bool := T.modes.any fun q => q.1 == f && consOk l q.2
/-- the keywords' names -/
def kwOk : List Keyword → List Str → Bool
  | [], [] => true
  | ⟨some x, e, _⟩ :: r, y :: t => decide (x = y) && plainE e && kwOk r t
  | _, _ => false
/-- a constant where one fills in, any expression where a keyword is written -/
def flOk : List (Option MV) → List ME → Bool
  | [], [] => true
  | some c :: r, m :: t => isCon m c && flOk r t
  | none :: r, _ :: t => flOk r t
  | _, _ => false
def pick : List (Option MV) → List ME → List ME
  | some _ :: r, _ :: t => pick r t
  | none :: r, m :: t => m :: pick r t
  | _, _ => []
mutual
def chkE (T : Tab) : Nat → Sc → Expr → ME → Bool
  | 0, _, _, _ => false
  | n + 1, S, e, m => match e, m with
    | .Name x _, .var i => slotOk S x i
    | .Constant (.int i) _ _, .con (.int j) => decide (i = j)
    | .Constant (.bool i) _ _, .con (.bl j) => i == j
    | .Constant .none _ _, .con .non => true
    | .Constant (.str x) _ _, .con (.str l) => decide (x.cps.toList = l)
    | .BinOp a op b _, .op2 o c d => binOk op o && chkE T n S a c && chkE T n S b d
    | .UnaryOp .USub a _, .prim .neg [c] => chkE T n S a c
    | .UnaryOp .Invert a _, .prim .inv [c] => chkE T n S a c
    | .UnaryOp .Not a _, .nt c => chkE T n S a c
    | .BoolOp .And (a :: b :: r) p, .and c d => chkE T n S a c && (match r with
      | [] => chkE T n S b d
      | _ => chkE T n S (.BoolOp .And (b :: r) p) d)
    | .BoolOp .Or (a :: b :: r) p, .or c d => chkE T n S a c && (match r with
      | [] => chkE T n S b d
      | _ => chkE T n S (.BoolOp .Or (b :: r) p) d)
    | .Compare a [op] [b] _, .op2 o c d => cmpOk op o && chkE T n S a c && chkE T n S b d && notSet b
    | .Compare a [op, op'] [b, b'] _, .chain o p c d d' => cmpOk op o && cmpOk op' p && chkE T n S a c && chkE T n S b d && chkE T n S b' d' && notSet b'
    | .IfExp c a b _, .ite mc ma mb => chkT T n S c mc && chkE T n S a ma && chkE T n S b mb
    | .Tuple es _ _, .tup l => chkEs T n S es l
    | .List es _, .lst l => chkEs T n S es l
    | .Call (.Name x _) es [] _, .call f l => isGl S.sc x && okName x && decide (T.fns[f]? = some x) && chkEs T n S es (l.take es.length) && findMode T f (l.drop es.length)
    | .Call (.Name x _) (a :: es) (kw :: kws) _, .call f l => isGl S.sc x && okName x && decide (T.fns[f]? = some x) && chkEs T n S (a :: es) (l.take (es.length + 1)) &&
        T.kmodes.any fun q => q.1 == f && q.2.1 == es.length + 1 && kwOk (kw :: kws) q.2.2.1 && flOk q.2.2.2 (l.drop (es.length + 1)) && chkEs T n S ((kw :: kws).map Keyword.value) (pick q.2.2.2 (l.drop (es.length + 1)))
    | .Call (.Name x _) [a, .Name y _] [] _, .prim p [c] => match isiName p with
      | some z => decide (x = ("isinstance" : Str)) && decide (y = z) && isGl S.sc x && isGl S.sc y && decide (x ∈ T.blts) && decide (y ∈ T.blts) && chkE T n S a c && plainE a
      | none => false
    | .Call (.Name x _) es [] _, .prim p l => (match isiName p with
      | some _ => false
      | none => true) && decide (x = primName p) && !decide (x = ("" : Str)) && isGl S.sc x && decide (x ∈ T.blts) && decide (es.length = primArity p) && chkEs T n S es l
    | .Call (.Attribute o nm apos) [a] [] pos, .meth .append mo [c] => decide (nm = ("append" : Str)) && (apos.endLine == pos.line) && notCall o && chkE T n S o mo && chkE T n S a c && plainE a
    | .Call (.Attribute o nm apos) [a] [] pos, .meth .pop mo [c] => decide (nm = ("pop" : Str)) && (apos.endLine == pos.line) && notCall o && chkE T n S o mo && chkE T n S a c && plainE a
    | .Call (.Attribute o nm apos) [a, b] [] pos, .meth .insert mo [c, d] => decide (nm = ("insert" : Str)) && (apos.endLine == pos.line) && notCall o && chkE T n S o mo && chkE T n S a c && chkE T n S b d && plainE a && plainE b
    | .Call (.Attribute o nm apos) [] [] pos, .meth .bitLen mo [] => decide (nm = ("bit_length" : Str)) && (apos.endLine == pos.line) && notCall o && chkE T n S o mo
    | .Attribute o nm _, .att c f mo => decide (flds[f]? = some nm) && decide ((c, f) ∈ T.atts) && notCall o && chkE T n S o mo
    | .Call (.Attribute o nm apos) es [] pos, .mcl c f mo l => decide (nm ∉ flds) && (apos.endLine == pos.line) && decide (es.length < 29) && notCall o && chkE T n S o mo && chkEs T n S es (l.take es.length) &&
        T.meths.any fun q => q.1 == c && decide (q.2.1 = nm) && q.2.2.1 == f && consOk (l.drop es.length) q.2.2.2
    | .Call (.Attribute o nm apos) (a :: es) (kw :: kws) pos, .mcl c f mo l => decide (nm ∉ flds) && (apos.endLine == pos.line) && decide (es.length + kws.length < 26) && notCall o && chkE T n S o mo && chkEs T n S (a :: es) (l.take (es.length + 1)) &&
        T.kmeths.any fun q => q.1 == c && decide (q.2.1 = nm) && q.2.2.1 == f && q.2.2.2.1 == es.length + 2 && kwOk (kw :: kws) q.2.2.2.2.1 && flOk q.2.2.2.2.2 (l.drop (es.length + 1)) && chkEs T n S ((kw :: kws).map Keyword.value) (pick q.2.2.2.2.2 (l.drop (es.length + 1)))
    | .Call (.Name x _) es [] _, .mk c f l => isGl S.sc x && okName x && decide (clss[c]? = some x) && chkEs T n S es (l.take es.length) && T.mks.any fun q => q.1 == c && q.2.1 == f && consOk (l.drop es.length) q.2.2
    | .Dict [] [] _, .dct0 => true
    | .Compare a [op] [b] _, .cin neg c f ma mb => (match op, neg with
      | .In, false => true
      | .NotIn, true => true
      | _, _ => false) && notSet b && chkE T n S a ma && chkE T n S b mb && T.meths.any fun q => q.1 == c && decide (q.2.1 = ("__contains__" : Str)) && q.2.2.1 == f && q.2.2.2.isEmpty
    | .DictComp kx vx [⟨.Name x _, it, [], k0⟩] scope _, .dcS (.nm i) mi mk mv => (k0 == 0) && decide (S.N[i]? = some x) && isLocal (blkSc S scope x) x && blkC S.N S.sc scope [(x, i)] && chkE T n S it mi && notSet it && chkE T n (blkSc S scope x) kx mk && chkE T n (blkSc S scope x) vx mv
    | .Call (.Name x _) [.Call (.Name y _) [a, b] [] _] [] _, .tupR c d => decide (x = ("tuple" : Str)) && decide (y = ("range" : Str)) && isGl S.sc x && isGl S.sc y && decide (x ∈ T.blts) && decide (y ∈ T.blts) && plainE a && plainE b && chkE T n S a c && chkE T n S b d
    | .Subscript a i _, m => match i, m with
      | .Slice none none (some (.UnaryOp .USub (.Constant (.int j) _ _) _)) _, .rev c => decide (j = 1) && chkE T n S a c
      | .Slice lo hi none _, .sl fl fh c l h => chkE T n S a c && chkB T n S lo fl l && chkB T n S hi fh h
      | i, .op2 .ix c d => notSlice i && chkE T n S a c && chkE T n S i d
      | _, _ => false
    | .ListComp e [⟨.Name x _, it, ifs, k0⟩] scope _, .lcS (.nm i) mi cs me => (k0 == 0) && decide (S.N[i]? = some x) && isLocal (blkSc S scope x) x && blkC S.N S.sc scope [(x, i)] && chkE T n S it mi && notSet it && chkTs T n (blkSc S scope x) ifs cs && chkE T n (blkSc S scope x) e me
    | .ListComp e [⟨.Name x _, .Call (.Name y _) [a] [] _, ifs, k0⟩] scope _, .lcR1 (.nm i) mi cs me => (k0 == 0) && decide (S.N[i]? = some x) && isLocal (blkSc S scope x) x && blkC S.N S.sc scope [(x, i)] && decide (y = ("range" : Str)) && isGl S.sc y && decide (y ∈ T.blts) && plainE a &&
        chkE T n S a mi && chkTs T n (blkSc S scope x) ifs cs && chkE T n (blkSc S scope x) e me
    | .ListComp e [⟨.Name x _, .Call (.Name y _) [a, b] [] _, ifs, k0⟩] scope _, .lcR2 (.nm i) mi mj cs me => (k0 == 0) && decide (S.N[i]? = some x) && isLocal (blkSc S scope x) x && blkC S.N S.sc scope [(x, i)] && decide (y = ("range" : Str)) && isGl S.sc y && decide (y ∈ T.blts) && plainE a && plainE b &&
        chkE T n S a mi && chkE T n S b mj && chkTs T n (blkSc S scope x) ifs cs && chkE T n (blkSc S scope x) e me
    | _, _ => false
def chkEs (T : Tab) : Nat → Sc → List Expr → List ME → Bool
  | 0, _, _, _ => false
  | _ + 1, _, [], [] => true
  | n + 1, S, e :: es, m :: ms => plainE e && chkE T n S e m && chkEs T n S es ms
  | _ + 1, _, _, _ => false
def chkB (T : Tab) : Nat → Sc → Option Expr → Bool → ME → Bool
  | 0, _, _, _, _ => false
  | n + 1, S, some e, true, m => chkE T n S e m
  | _ + 1, _, none, false, .con .non => true
  | _ + 1, _, _, _, _ => false
def chkT (T : Tab) : Nat → Sc → Expr → ME → Bool
  | 0, _, _, _ => false
  | n + 1, S, e, m => match e, m with
    | .BoolOp .And (a :: b :: r) p, .and c d => chkT T n S a c && (match r with
      | [] => chkT T n S b d
      | _ => chkT T n S (.BoolOp .And (b :: r) p) d)
    | .BoolOp .Or (a :: b :: r) p, .or c d => chkT T n S a c && (match r with
      | [] => chkT T n S b d
      | _ => chkT T n S (.BoolOp .Or (b :: r) p) d)
    | .UnaryOp .Not a _, .nt c => chkT T n S a c
    | .Compare a [op] [b] _, .op2 o c d => cmpOk op o && chkE T n S a c && chkE T n S b d && notSet b
    | .Compare a [op, op'] [b, b'] _, .chain o p c d d' => cmpOk op o && cmpOk op' p && chkE T n S a c && chkE T n S b d && chkE T n S b' d' && notSet b'
    | .Name x q, .var i => chkE T n S (.Name x q) (.var i)
    | .Call f es ks q, .call g l => chkE T n S (.Call f es ks q) (.call g l)
    | .Call f es ks q, .prim g l => chkE T n S (.Call f es ks q) (.prim g l)
    | .Subscript a i q, .op2 o c d => notSlice i && chkE T n S (.Subscript a i q) (.op2 o c d)
    | .Attribute o nm q, .att c f mo => chkE T n S (.Attribute o nm q) (.att c f mo)
    | .Call f es ks q, .mcl c g mo l => chkE T n S (.Call f es ks q) (.mcl c g mo l)
    | _, _ => false
def chkTs (T : Tab) : Nat → Sc → List Expr → List ME → Bool
  | 0, _, _, _ => false
  | _ + 1, _, [], [] => true
  | n + 1, S, [e], [m] => chkT T n S e m
  | _ + 1, _, _, _ => false
end
def chkI (T : Tab) (n : Nat) (S : Sc) (tg : Expr) : Expr → MI → Bool
  | .Name x _, .keys i => slotOk S x i
  | e, .seq m => chkE T n S e m
  | .Call (.Name x _) [a] [] _, .rng1 m => decide (x = ("range" : Str)) && isGl S.sc x && decide (x ∈ T.blts) && plainE a && chkE T n S a m
  | .Call (.Name x _) [a, b] [] _, .rng2 m c => decide (x = ("range" : Str)) && isGl S.sc x && decide (x ∈ T.blts) && plainE a && plainE b && chkE T n S a m && chkE T n S b c
  | .Call (.Name x _) [a, b, .UnaryOp .USub (.Constant (.int j) _ _) _] [] _, .down m c => decide (j = 1) && decide (x = ("range" : Str)) && isGl S.sc x && decide (x ∈ T.blts) && plainE a && plainE b && chkE T n S a m && chkE T n S b c
  | .Call (.Name x _) [a] [] _, .enm m => (match tg with
    | .Tuple _ _ _ => true
    | _ => false) && decide (x = ("enumerate" : Str)) && isGl S.sc x && decide (x ∈ T.blts) && plainE a && chkE T n S a m
  | _, _ => false
def tgtsOk (S : Sc) : List Expr → List Nat → Bool
  | [], [] => true
  | .Name x _ :: r, i :: t => tgtOk S x i && tgtsOk S r t
  | _, _ => false
def chkG (S : Sc) : Expr → MG → Bool
  | .Name x _, .nm i => tgtOk S x i
  | .Tuple ts _ _, .tp is => tgtsOk S ts is
  | _, _ => false
/-- a, b = c, d is a case of its own -/
def notPair : Expr → Bool
  | .Tuple _ _ _ => false
  | _ => true
mutual
def chkS (T : Tab) : Nat → Sc → Stmt → MS → Bool
  | 0, _, _, _ => false
  | n + 1, S, s, m => match s, m with
    | .Assign [.Name y py] (.ListComp e gs scope pos) sp, .asg (.nm i) me => tgtOk S y i && chkE T n S (.ListComp e gs scope pos) me
    | .Assign [.Subscript o i _] e _, .setIx mo mi me => notSlice i && notComp e && chkE T n S o mo && chkE T n S i mi && chkE T n S e me
    | .Assign [.Attribute o nm _] e _, .setAt c f mo me => decide (flds[f]? = some nm) && decide ((c, f) ∈ T.atts) && notComp e && chkE T n S o mo && chkE T n S e me
    | .Assign [tg] e _, .asg g me => chkG S tg g && chkE T n S e me && notComp e && (match tg with
      | .Name _ _ => true
      | _ => notPair e)
    | .AugAssign (.Name x _) .Add e _, .aug .add i me => tgtOk S x i && chkE T n S e me
    | .AugAssign (.Name x _) .Sub e _, .aug .sub i me => tgtOk S x i && chkE T n S e me
    | .Expr e _, .expr me => chkE T n S e me && notComp e
    | .Return (some e) _, .ret me => chkE T n S e me
    | .Return none _, .retN => true
    | .Pass _, .pass => true
    | .Break _, .brk => true
    | .Continue _, .cont => true
    | .If c a b _, .ite mc ma mb => chkT T n S c mc && chkSs T n S a ma && chkSs T n S b mb
    | .For tg it body [] _, .loop g mi ms _ => chkG S tg g && chkI T n S tg it mi && notSet it && chkSs T n S body ms
    | .While c body [] _, .whl mc ms _ => chkT T n S c mc && chkSs T n S body ms
    | s, .lock _ m => chkS T n S s m
    | _, .never => true
    | _, _ => false
def chkSs (T : Tab) : Nat → Sc → List Stmt → List MS → Bool
  | 0, _, _, _ => false
  | n + 1, S, ss, ms => match ms with
    | .kill _ :: ms2 => chkSs T n S ss ms2
    | [] => (match ss with
      | [] => true
      | _ => false)
    | m :: ms2 => (match ss with
      | s :: ss2 => chkS T n S s m && chkSs T n S ss2 ms2
      | [] => false)
end
end DS
end

section
set_option Elab.async false
set_option linter.all false
set_option maxRecDepth 100000
set_option maxHeartbeats 8000000
/-! DeepSound7: what the look lets by is sound. -/
namespace DS
open PySem PySem.Spec PyProof.Rows L2
open Mini (MV Cell Store Out ME MS MI MG)
section
variable {X : L2.Cx} {T : Tab} {W : Mini.World} {k : Nat} {S : Sc} {pos : Pos}
abbrev cx (W : Mini.World) (k : Nat) : Mini.Cx := ⟨Mini.callK W k, W.repr, W.wf⟩
theorem okName_of {x : Str} (h : okName x = true) : (x == ("__debug__" : Str)) = false ∧ (x == ("__classdict__" : Str)) = false ∧ x ≠ "__name__" := by
  unfold okName at h
  rw [Bool.and_eq_true, Bool.and_eq_true] at h
  exact ⟨by simpa using h.1.1, by simpa using h.1.2, by simpa using h.2⟩
theorem vis_of {sc : Scope} {x : Str} (h : isVis sc x = true) : Vis sc x := by
  unfold isVis at h
  split at h <;> rename_i e
  · exact .inl e
  · exact .inr (.inl e)
  · exact .inr (.inr e)
  · cases h
theorem gl_of (G : Good T W k S X) {x : Str} (h : isGl S.sc x = true) : Gl X x := by
  unfold isGl at h
  split at h
  · rename_i e
    show X.env.scope.names.lookup x = _
    rw [G.sc]
    exact e
  · cases h
theorem star_of {a : Expr} (h : plainE a = true) (es : List Expr) (env : Env) : starEach (a :: es) env = (false, eval a env) :: starEach es env := by
  cases a <;> first | rfl | cases h
theorem any_star : ∀ {es : List Expr}, (es.all plainE = true) → ∀ (env : Env) (pos : Pos), (backTo pos (starEach es env)).any (·.1) = false
  | [], _, _, _ => rfl
  | a :: r, h, env, pos => by
    rw [List.all_cons, Bool.and_eq_true] at h
    rw [star_of h.1]
    show (false || (backTo pos (starEach r env)).any (·.1)) = false
    rw [any_star h.2] <;> rfl
theorem notSet_beh {b : Expr} (h : notSet b = true) (op : CmpOp) : behindInMarks op b = false := by
  cases b <;> first | rfl | cases h
theorem notSet_fold {b : Expr} (h : notSet b = true) (env : Env) (x : Value) : foldedSetIterable b env x = pure x := by
  cases b <;> first | rfl | cases h
theorem plainIx_of {b : Expr} (h : notSlice b = true) : PlainIx b := by
  cases b <;> first | (intro _ _; rfl) | cases h
theorem notCall_base {o : Expr} (h : notCall o = true) (nm : Str) (env : Env) : attributeBase o nm env (eval o env) = eval o env := by
  cases o <;> first | rfl | cases h
theorem notComp_swap {e : Expr} (h : notComp e = true) (t : Option Expr) (l : Nat) (env : Env) : swapsWith e t l env = pure false := by
  cases e <;> first | rfl | cases h
theorem bin_of (hu : X.A.units + 64 < cLine) {op : Operator} {o : Mini.Op2} (h : binOk op o = true) : OpR X (binaryOp op) (R2o X.K fun st x y => Mini.op2 o x y st) := by
  unfold binOk at h
  split at h
  · exact d_add
  · exact d_sub
  · exact d_mul
  · exact d_fdiv
  · exact d_mod
  · exact d_pow
  · exact d_band
  · exact d_bor
  · exact d_shl
  · exact d_shr
  · cases h
theorem d_isN : OpR X (compareOp .Is) (R2o X.K fun st x y => Mini.op2 .isN x y st) := by
  intro pins s σ H v w a b Q I ra rb h
  obtain ⟨ρ, st, x, y, rs, rx, ry, h⟩ := h
  cases y with
  | non =>
    cases ry
    refine op_isN pins s σ H _ _ a b Q I ra rb ⟨rfl, ?_⟩
    cases rx with
    | non => exact okE_bl rs h
    | bl _ => exact okE_bl rs h
    | int _ => exact okE_bl rs h
    | str _ => exact okE_bl rs h
    | loc _ => exact okE_bl rs h
    | tup _ _ => exact okE_bl rs h
  | _ => cases x <;> exact h.elim
theorem d_notN : OpR X (compareOp .IsNot) (R2o X.K fun st x y => Mini.op2 .notN x y st) := by
  intro pins s σ H v w a b Q I ra rb h
  obtain ⟨ρ, st, x, y, rs, rx, ry, h⟩ := h
  cases y with
  | non =>
    cases ry
    refine op_notN pins s σ H _ _ a b Q I ra rb ⟨rfl, ?_⟩
    cases rx with
    | non => exact okE_bl rs h
    | bl _ => exact okE_bl rs h
    | int _ => exact okE_bl rs h
    | str _ => exact okE_bl rs h
    | loc _ => exact okE_bl rs h
    | tup _ _ => exact okE_bl rs h
  | _ => cases x <;> exact h.elim
theorem cmp_of (hu : X.A.units + 64 < cLine) {op : CmpOp} {o : Mini.Op2} (h : cmpOk op o = true) : OpR X (compareOp op) (R2o X.K fun st x y => Mini.op2 o x y st) := by
  unfold cmpOk at h
  split at h
  · exact d_eq hu
  · exact d_ne hu
  · exact d_cmp op_lt
  · exact d_cmp op_le
  · exact d_cmp op_gt
  · exact d_cmp op_ge
  · exact d_isN
  · exact d_notN
  · exact d_in2 hu
  · exact d_notIn2 hu
  · cases h
theorem cmp_bl {op : CmpOp} {o : Mini.Op2} (h : cmpOk op o = true) (x y : MV) (st : Store) : (∃ b s, Mini.op2 o x y st = .ok (.bl b) s) ∨ Mini.op2 o x y st = .bad := by
  unfold cmpOk at h
  split at h
  · simp only [Mini.op2]
    split
    · exact .inl ⟨_, _, rfl⟩
    · exact .inr rfl
  · simp only [Mini.op2]
    split
    · exact .inl ⟨_, _, rfl⟩
    · exact .inr rfl
  · simp only [Mini.op2, Mini.cmpI]
    split
    · exact .inl ⟨_, _, rfl⟩
    · exact .inr rfl
  · simp only [Mini.op2, Mini.cmpI]
    split
    · exact .inl ⟨_, _, rfl⟩
    · exact .inr rfl
  · simp only [Mini.op2, Mini.cmpI]
    split
    · exact .inl ⟨_, _, rfl⟩
    · exact .inr rfl
  · simp only [Mini.op2, Mini.cmpI]
    split
    · exact .inl ⟨_, _, rfl⟩
    · exact .inr rfl
  · cases x <;> cases y <;> first | exact .inl ⟨_, _, rfl⟩ | exact .inr rfl
  · cases x <;> cases y <;> first | exact .inl ⟨_, _, rfl⟩ | exact .inr rfl
  · simp only [Mini.op2]
    split
    · exact .inl ⟨_, _, rfl⟩
    · exact .inr rfl
  · simp only [Mini.op2]
    split
    · exact .inl ⟨_, _, rfl⟩
    · exact .inr rfl
  · cases h
/-! ### the constants behind the written arguments -/
theorem isCon_ev {m : ME} {c : MV} (h : isCon m c = true) (C : Mini.Cx) (env : Mini.Env) (st : Store) : Mini.evE C m env st = .ok c st := by
  unfold isCon at h
  split at h
  · simp only [Mini.evE]
  · have e := eq_of_beq h
    subst e
    simp only [Mini.evE]
  · have e := of_decide_eq_true h
    subst e
    simp only [Mini.evE]
  · cases h
theorem consOk_ev (C : Mini.Cx) (env : Mini.Env) : ∀ {l : List ME} {cs : List MV}, consOk l cs = true → ∀ st, Mini.evEs C l env st = .ok cs st
  | [], [], _, st => by simp only [Mini.evEs]
  | [], _ :: _, h, _ => by cases h
  | _ :: _, [], h, _ => by cases h
  | m :: r, c :: t, h, st => by
    have h' : isCon m c = true ∧ consOk r t = true := by simpa [consOk] using h
    simp only [Mini.evEs, isCon_ev h'.1, consOk_ev C env h'.2, Out.bind_ok]
theorem evEs_app (C : Mini.Cx) (env : Mini.Env) : ∀ (l m : List ME) (st : Store), Mini.evEs C (l ++ m) env st = (Mini.evEs C l env st).bind fun xs s1 => (Mini.evEs C m env s1).bind fun ys s2 => .ok (xs ++ ys) s2
  | [], m, st => by
    show Mini.evEs C m env st = _
    simp only [Mini.evEs, Out.bind_ok, List.nil_append]
    cases Mini.evEs C m env st <;> rfl
  | a :: l, m, st => by
    show Mini.evEs C (a :: (l ++ m)) env st = _
    simp only [Mini.evEs]
    cases e : Mini.evE C a env st with
    | exc _ _ => rfl
    | bad => rfl
    | ok x s =>
      simp only [Out.bind_ok, evEs_app C env l m s]
      cases e2 : Mini.evEs C l env s with
      | exc _ _ => rfl
      | bad => rfl
      | ok xs s2 =>
        simp only [Out.bind_ok]
        cases e3 : Mini.evEs C m env s2 <;> rfl
/-- a call of a def, its arguments written, then constants -/
theorem m_call {f : Nat} {x : Str} {p : Pos} {es : List Expr} {l : List ME} {dl : List MV} (G : Good T W k S X) (hg : isGl S.sc x = true) (hx : okName x = true) (hf : T.fns[f]? = some x) (hmode : (f, dl) ∈ T.modes) (hdl : consOk (l.drop es.length) dl = true)
    (ha : PA X es (tA X.K (Mini.evEs (cx W k) (l.take es.length)))) (hpl : es.all plainE = true) : PE X (.Call (.Name x p) es [] pos) (tE X.K (Mini.evE (cx W k) (.call f l))) := by
  obtain ⟨a, fd, ps, ds, dvs, hm, hk, hb, hd, hcv, F⟩ := G.fns f x dl hf hmode
  obtain ⟨h1, h2, h3⟩ := okName_of hx
  have go : ∀ σ H Q, tE X.K (Mini.evE (cx W k) (.call f l)) σ H Q → tCall (spD X.K W k f) dvs E0 (tA X.K (Mini.evEs (cx W k) (l.take es.length))) σ H Q := fun σ H Q h => by
    obtain ⟨ρ, env, st, rs, re, h⟩ := h
    simp only [Mini.evE] at h
    obtain ⟨vs, s1, e1, h⟩ := okE_bind h
    rw [← List.take_append_drop es.length l, evEs_app] at e1
    obtain ⟨xs, s2, e2, e3⟩ := out_bind e1
    rw [consOk_ev _ _ hdl] at e3
    cases e3
    exact tA.step rs re e2 fun ρ1 us H1 x1 rs1 re1 rvs => ⟨ρ1, _, _, rs1, rvs.append hcv.rv, h.mono x1⟩
  cases es with
  | nil =>
    refine (pe_callG0 (E := E0) F (G.room.mono (by omega)) G.gd (gl_of G hg) hm hk hb hd h1).imp fun σ H Q h => ?_
    · have z := go σ H Q h
      obtain ⟨ρ, env, st, rs, re, z⟩ := z
      simp only [List.length_nil, List.take_zero, Mini.evEs] at z
      exact z ρ [] H .refl rs .nil
  | cons e r =>
    rw [List.all_cons, Bool.and_eq_true] at hpl
    exact (pe_callG F (G.room.mono (by omega)) G.gd (gl_of G hg) hm hk hb hd ha h1 (star_of hpl.1 _ _) (any_star hpl.2 _ _)).imp go
theorem chkEs_plain : ∀ (n : Nat) {es : List Expr} {ms : List ME}, chkEs T n S es ms = true → es.all plainE = true ∧ es.length = ms.length
  | 0, _, _, h => by simp [chkEs] at h
  | n + 1, [], [], _ => ⟨rfl, rfl⟩
  | n + 1, [], _ :: _, h => by simp [chkEs] at h
  | n + 1, _ :: _, [], h => by simp [chkEs] at h
  | n + 1, e :: es, m :: ms, h => by
    simp only [chkEs, Bool.and_eq_true] at h
    obtain ⟨a, b⟩ := chkEs_plain n h.2
    exact ⟨by rw [List.all_cons, h.1.1, a] <;> rfl, by simp [b]⟩
/-! keywords -/
theorem kwOk_len : ∀ {kws : List Keyword} {ks : List Str}, kwOk kws ks = true → kws.length = ks.length
  | [], [], _ => rfl
  | [], _ :: _, h => by simp [kwOk] at h
  | ⟨none, _, _⟩ :: _, _, h => by simp [kwOk] at h
  | ⟨some _, _, _⟩ :: _, [], h => by simp [kwOk] at h
  | ⟨some x, _, _⟩ :: r, y :: t, h => by
    simp only [kwOk, Bool.and_eq_true] at h
    simp only [List.length_cons, kwOk_len h.2]
theorem kwOk_all {env : PySem.Env} {pos : Pos} : ∀ {kws : List Keyword} {ks : List Str}, kwOk kws ks = true → (backToKw pos (keywordEach kws env)).all (·.1.isSome) = true ∧ (backToKw pos (keywordEach kws env)).filterMap (·.1) = ks ∧ (backToKw pos (keywordEach kws env)).any (·.1.isNone) = false
  | [], [], _ => ⟨rfl, rfl, rfl⟩
  | [], _ :: _, h => by simp [kwOk] at h
  | ⟨none, _, _⟩ :: _, _, h => by simp [kwOk] at h
  | ⟨some _, _, _⟩ :: _, [], h => by simp [kwOk] at h
  | ⟨some x, e, kp⟩ :: r, y :: t, h => by
    simp only [kwOk, Bool.and_eq_true, decide_eq_true_eq] at h
    obtain ⟨a, b, c⟩ := kwOk_all (env := env) (pos := pos) h.2
    refine ⟨?_, ?_, ?_⟩
    · show ((some x, _) :: backToKw pos (keywordEach r env)).all (·.1.isSome) = true
      rw [List.all_cons, a]
      rfl
    · show ((some x, _) :: backToKw pos (keywordEach r env)).filterMap (·.1) = y :: t
      rw [List.filterMap_cons, b, h.1.1]
    · show ((some x, _) :: backToKw pos (keywordEach r env)).any (·.1.isNone) = false
      rw [List.any_cons, c]
      rfl
theorem _root_.L2.PK.imp {X : L2.Cx} {kws : List Keyword} {t t2 : TA} (h : PK X kws t) (hi : ∀ σ H Q, t2 σ H Q → t σ H Q) : PK X kws t2 := ⟨fun pos pins s σ H Q I q => h.run pos pins s σ H Q I (hi _ _ _ q)⟩
theorem mk_nil {X : L2.Cx} {C : Mini.Cx} : PK X [] (tA X.K (Mini.evEs C [])) := pk_nil.imp fun σ H Q h => by
  obtain ⟨ρ, env, st, rs, re, h⟩ := h
  simp only [Mini.evEs] at h
  exact h ρ [] H .refl rs .nil
theorem mk_cons {X : L2.Cx} {C : Mini.Cx} {nm : Option Str} {a : Expr} {kp : Pos} {kws : List Keyword} {m : ME} {ms : List ME} (ha : PE X a (tE X.K (Mini.evE C m))) (hr : PK X kws (tA X.K (Mini.evEs C ms))) : PK X (⟨nm, a, kp⟩ :: kws) (tA X.K (Mini.evEs C (m :: ms))) := by
  refine (pk_cons ha hr).imp fun σ H Q h => ?_
  obtain ⟨ρ, env, st, rs, re, h⟩ := h
  simp only [Mini.evEs] at h
  obtain ⟨x, s1, e1, h⟩ := okA_bind h
  obtain ⟨xs, s2, e2, h⟩ := okA_bind h
  refine tE.step rs re e1 fun ρ1 v H1 x1 rs1 re1 rv => tA.step rs1 re1 e2 fun ρ2 vs H2 x2 rs2 re2 rvs => ?_
  exact h ρ2 _ H2 (x1.trans x2) rs2 (.cons (rv.mono x2) rvs)
theorem fl_ev (C : Mini.Cx) (env : Mini.Env) : ∀ {fl : List (Option MV)} {l : List ME}, flOk fl l = true → ∀ st, Mini.evEs C l env st = (Mini.evEs C (pick fl l) env st).bind fun zs s => .ok (fillIn fl zs) s
  | [], [], _, st => by simp only [pick, Mini.evEs, Out.bind_ok, fillIn]
  | [], _ :: _, h, _ => by simp [flOk] at h
  | some _ :: _, [], h, _ => by simp [flOk] at h
  | none :: _, [], h, _ => by simp [flOk] at h
  | some c :: r, m :: t, h, st => by
    simp only [flOk, Bool.and_eq_true] at h
    simp only [pick, Mini.evEs, isCon_ev h.1, Out.bind_ok]
    rw [fl_ev C env h.2]
    cases Mini.evEs C (pick r t) env st <;> rfl
  | none :: r, m :: t, h, st => by
    simp only [flOk] at h
    simp only [pick, Mini.evEs]
    cases Mini.evE C m env st with
    | exc _ _ => rfl
    | bad => rfl
    | ok x s =>
      simp only [Out.bind_ok]
      rw [fl_ev C env h]
      cases Mini.evEs C (pick r t) env s <;> rfl
theorem evEs_len (C : Mini.Cx) (env : Mini.Env) : ∀ {l : List ME} {st s : Store} {vs : List MV}, Mini.evEs C l env st = .ok vs s → vs.length = l.length
  | [], st, s, vs, h => by
    simp only [Mini.evEs] at h
    cases h
    rfl
  | m :: l, st, s, vs, h => by
    simp only [Mini.evEs] at h
    obtain ⟨x, s1, e1, h⟩ := out_bind h
    obtain ⟨xs, s2, e2, h⟩ := out_bind h
    cases h
    simp only [List.length_cons, evEs_len C env e2]
def FlV (d : Option MV) (v : Option V) : Prop := match d, v with | some d, some v => CV d v | none, none => True | _, _ => False
theorem fill_rv {K : PySem.W.Frag} {H : Hp} {ρ : Rho} : ∀ {fl : List (Option MV)} {fv : List (Option V)} {zm : List MV} {zs : List V}, Paired FlV fl fv → RVs K H ρ zm zs → RVs K H ρ (fillIn fl zm) (fillIn fv zs)
  | _, _, _, _, .nil, _ => by simp only [fillIn]; exact .nil
  | some c :: r, some v :: t, zm, zs, .cons h p, rz => by
    simp only [fillIn]
    exact .cons (CV.rv h) (fill_rv p rz)
  | none :: r, none :: t, _ :: _, _ :: _, .cons h p, .cons a b => by
    simp only [fillIn]
    exact .cons a (fill_rv p b)
  | none :: r, none :: t, [], [], .cons h p, .nil => by
    simp only [fillIn]
    exact .nil
  | some c :: r, none :: t, _, _, .cons h p, _ => h.elim
  | none :: r, some c :: t, _, _, .cons h p, _ => h.elim
theorem m_callK {f : Nat} {x : Str} {p : Pos} {a : Expr} {es : List Expr} {kws : List Keyword} {l : List ME} {ks : List Str} {fl : List (Option MV)} (G : Good T W k S X) (hg : isGl S.sc x = true) (hx : okName x = true) (hf : T.fns[f]? = some x) (hmode : (f, es.length + 1, ks, fl) ∈ T.kmodes) (hkw : kwOk kws ks = true) (hfl : flOk fl (l.drop (es.length + 1)) = true)
    (ha : PA X (a :: es) (tA X.K (Mini.evEs (cx W k) (l.take (es.length + 1))))) (hlen : (l.take (es.length + 1)).length = es.length + 1) (hpl : (a :: es).all plainE = true) (hk : PK X kws (tA X.K (Mini.evEs (cx W k) (pick fl (l.drop (es.length + 1)))))) (hkl : (pick fl (l.drop (es.length + 1))).length = ks.length) :
    PE X (.Call (.Name x p) (a :: es) kws pos) (tE X.K (Mini.evE (cx W k) (.call f l))) := by
  obtain ⟨b, fd, ps, g, fv, hm, hkp, hb, hpr, F⟩ := G.kfns f _ x ks fl hf hmode
  obtain ⟨h1, h2, h3⟩ := okName_of hx
  obtain ⟨k1, k2, k3⟩ := kwOk_all (env := X.env) (pos := pos) hkw
  rw [List.all_cons, Bool.and_eq_true] at hpl
  have hst := star_of hpl.1 es X.env
  refine (pe_callKG (E := E0) F (G.room.mono (by omega)) G.gd (gl_of G hg) hm hkp hb ha hk k1 k2 h1 hst (by rw [k3, hst]; have z := any_star hpl.2 X.env pos; simp only [backTo, List.map_cons, List.any_cons, Bool.false_or, Bool.or_false] at z ⊢; exact z)).imp fun σ H Q h => ?_
  obtain ⟨ρ, env, st, rs, re, h⟩ := h
  simp only [Mini.evE] at h
  obtain ⟨vs, s1, e1, h⟩ := okE_bind h
  rw [← List.take_append_drop (es.length + 1) l, evEs_app] at e1
  obtain ⟨xs, s2, e2, e3⟩ := out_bind e1
  obtain ⟨ys, s3, e4, e5⟩ := out_bind e3
  cases e5
  rw [fl_ev _ _ hfl] at e4
  obtain ⟨zs, s4, e6, e7⟩ := out_bind e4
  cases e7
  refine tA.step rs re e2 fun ρ1 us H1 x1 rs1 re1 rvs => tA.step rs1 re1 e6 fun ρ2 ws H2 x2 rs2 re2 rvz => ⟨?_, ?_, ?_⟩
  · rw [← rvs.length, evEs_len _ _ e2, hlen]
  · rw [← rvz.length, evEs_len _ _ e6, hkl]
  · exact ⟨ρ2, _, _, rs2, (rvs.mono x2).append (fill_rv hpr rvz), h.mono (x1.trans x2)⟩
/-- a built-in by its name -/
theorem m_bi {p : Mini.Prim} {x : Str} {px : Pos} {es : List Expr} {l : List ME} (hW : W.repr = reprPy) (G : Good T W k S X) (hi : isiName p = none) (hx : x = primName p) (hne : x ≠ "") (hg : isGl S.sc x = true) (hb : x ∈ T.blts) (hlen : es.length = primArity p) (hpl : es.all plainE = true)
    (ha : PA X es (tA X.K (Mini.evEs (cx W k) l))) : PE X (.Call (.Name x px) es [] pos) (tE X.K (Mini.evE (cx W k) (.prim p l))) := by
  have hm := G.bl x hb
  have hG := gl_of G hg
  have hu : X.A.units + 64 < cLine := by have := G.room.un; omega
  match es, hlen, hpl, ha with
  | [], hlen, _, _ => cases p <;> simp [primArity] at hlen
  | e :: r, hlen, hpl, ha =>
    rw [List.all_cons, Bool.and_eq_true] at hpl
    have he := star_of hpl.1 r X.env
    have hr := any_star hpl.2 X.env pos
    cases p with
    | neg => exact absurd hx hne
    | notV => exact absurd hx hne
    | isInt => cases hi
    | isBool => cases hi
    | isList => cases hi
    | isTuple => cases hi
    | isStr => cases hi
    | len => subst hx; exact m_prim (pe_callB call_len2 hG hm (by decide +kernel) ha (by decide) (by decide) he hr) fun vs H Q h => p_len h
    | abs => subst hx; exact m_prim (pe_callB call_abs hG hm (by decide +kernel) ha (by decide) (by decide) he hr) fun vs H Q h => p_abs h
    | int => subst hx; exact m_prim (pe_callTy call_int1 hG hm (by decide +kernel) ha (by decide) (by decide) he hr) fun vs H Q h => p_int h
    | max2 => subst hx; exact m_prim (pe_callB (call_max2 G.calm) hG hm (by decide +kernel) ha (by decide) (by decide) he hr) fun vs H Q h => p_max2 h
    | min2 => subst hx; exact m_prim (pe_callB (call_min2 G.calm) hG hm (by decide +kernel) ha (by decide) (by decide) he hr) fun vs H Q h => p_min2 h
    | list => subst hx; exact m_prim (pe_callTy call_list_of hG hm (by decide +kernel) ha (by decide) (by decide) he hr) fun vs H Q h => p_list h
    | repr => subst hx; exact m_prim (pe_callB (d_repr (C := cx W k) G.gd hu hW) hG hm (by decide +kernel) ha (by decide) (by decide) he hr) fun vs H Q h => h
    | inv => exact absurd hx hne
    | tuple => subst hx; exact m_prim (pe_callTy call_tuple_of hG hm (by decide +kernel) ha (by decide) (by decide) he hr) fun vs H Q h => p_tuple h
    | sorted => subst hx; exact m_prim (pe_callB (call_sorted2 G.calm) hG hm (by decide +kernel) ha (by decide) (by decide) he hr) fun vs H Q h => p_sorted h
    | min1 => subst hx; exact m_prim (pe_callB (cr_min G.calm) hG hm (by decide +kernel) ha (by decide) (by decide) he hr) fun vs H Q h => p_min1 h
theorem isi_none {p : Mini.Prim} (h : (match isiName p with | some _ => false | none => true) = true) : isiName p = none := by
  split at h
  · cases h
  · assumption
theorem pw_of {op : BoolOp} {vs : List Expr} {t : TT} (h : PT X (.BoolOp op vs pos) t) : PW X (.BoolOp op vs pos) t := ⟨fun _ pins s σ H Q I w => h.run pins s σ H Q I w⟩
theorem m_isiAll {p : Mini.Prim} {px pt : Pos} {z : Str} {a : Expr} {c : ME} (G : Good T W k S X) (hz : isiName p = some z) (hg : isGl S.sc "isinstance" = true) (hg2 : isGl S.sc z = true) (hb : ("isinstance" : Str) ∈ T.blts) (hb2 : z ∈ T.blts) (hp : plainE a = true) (ha : PE X a (tE X.K (Mini.evE (cx W k) c))) :
    PE X (.Call (.Name "isinstance" px) [a, .Name z pt] [] pos) (tE X.K (Mini.evE (cx W k) (.prim p [c]))) := by
  have e1 := gl_of G hg
  have e2 := gl_of G hg2
  have e3 := G.bl _ hb
  have e4 := G.bl _ hb2
  cases p with
  | isInt => cases hz; exact m_isi hk_int hp_int e1 e3 e2 e4 (by decide +kernel) (by decide) (by decide) ha (star_of hp _ _)
  | isBool => cases hz; exact m_isi hk_bool hp_bool e1 e3 e2 e4 (by decide +kernel) (by decide) (by decide) ha (star_of hp _ _)
  | isList => cases hz; exact m_isi hk_list hp_list e1 e3 e2 e4 (by decide +kernel) (by decide) (by decide) ha (star_of hp _ _)
  | isTuple => cases hz; exact m_isi hk_tuple hp_tuple e1 e3 e2 e4 (by decide +kernel) (by decide) (by decide) ha (star_of hp _ _)
  | isStr => cases hz; exact m_isi hk_str hp_str e1 e3 e2 e4 (by decide +kernel) (by decide) (by decide) ha (star_of hp _ _)
  | _ => cases hz
theorem Good.blk (G : Good T W k S X) {scope : Scope} {x : Str} (s : Shared) (H : Hp) (C : Addr) (cl : List (Str × Addr)) (fp : List Addr) : Good T W k (blkSc S scope x) (X.blk s H scope (compEnvC scope cl C X.env) fp) := by
  refine ⟨G.hN, G.nd, ?_, fun y hy => ?_, G.calm, G.room, G.gd, PassesOwn.never, G.bl, G.fns, G.kfns, G.atts, G.meths, G.kmeths, G.mks⟩
  · show relS scope X.env.scope = relS scope S.sc
    rw [G.sc]
  · unfold blkSc at hy
    simp only at hy
    split at hy
    · rename_i e
      have hyx : y = x := by simpa using hy
      subst hyx
      show (scope.names.lookup y == some NameKind.cell) = true
      rw [e] <;> rfl
    · cases hy
theorem loc_of (G : Good T W k S X) {x : Str} (h : isLocal S x = true) : Loc X.env.scope x ∧ (X.fn x = true ∨ X.env.scope.names.lookup x = some .local) := by
  unfold isLocal at h
  rw [G.sc]
  split at h
  · rename_i e
    exact ⟨.inl e, .inr e⟩
  · rename_i e
    exact ⟨.inr e, .inl (G.fn x (of_decide_eq_true h))⟩
  · cases h
theorem tst_eq {C : Mini.Cx} {m : ME} (h : match m with | .var _ => True | .call _ _ => True | .prim _ _ => True | .op2 _ _ _ => True | .att _ _ _ => True | .mcl _ _ _ _ => True | _ => False) (env : Mini.Env) (st : Store) : (Mini.evE C m env st).bind (fun z s => Mini.truth s z) = Mini.tst C m env st := by
  cases m with
  | var i =>
    simp only [Mini.evE, Mini.tst]
    split <;> rfl
  | call f l =>
    simp only [Mini.evE, Mini.tst]
    cases Mini.evEs C l env st <;> rfl
  | prim f l =>
    simp only [Mini.evE, Mini.tst]
    cases Mini.evEs C l env st <;> rfl
  | op2 o a b =>
    simp only [Mini.evE, Mini.tst]
    cases Mini.evE C a env st with
    | ok x s =>
      simp only [Out.bind_ok]
      cases Mini.evE C b env s <;> rfl
    | exc _ _ => rfl
    | bad => rfl
  | att c f o => simp only [Mini.tst]
  | mcl c f o l => simp only [Mini.tst]
  | _ => exact h.elim
theorem _root_.L2.PT.congr {e : Expr} {f g : Mini.Env → Store → Out Bool} {K : PySem.W.Frag} (h : PT X e (tT K f)) (e2 : ∀ env st, f env st = g env st) : PT X e (tT K g) := by
  have : f = g := funext fun env => funext fun st => e2 env st
  rw [← this]
  exact h
/-- a comprehension: as a value, and stored at once -/
structure LcOk (X : L2.Cx) (e : Expr) (C : Mini.Cx) (m : ME) : Prop where
  ok : ∃ t : TE, PE X e t ∧ (∀ (i2 : Nat) (y : Str) (py sp : Pos), X.N[i2]? = some y → X.env.scope.names.lookup y = some .local → swapsWith e (some (.Name y py)) sp.line X.env = pure true → PS X (.Assign [.Name y py] e sp) (tAsg t (gName i2))) ∧
    ∀ σ H Q, tE X.K (Mini.evE C m) σ H Q → t σ H Q
theorem LcOk.pe {e : Expr} {C : Mini.Cx} {m : ME} (h : LcOk X e C m) : PE X e (tE X.K (Mini.evE C m)) := by
  obtain ⟨t, h1, _, h3⟩ := h.ok
  exact h1.imp h3
theorem lc_any {i : Nat} {x : Str} {px : Pos} {e it : Expr} {ifs : List Expr} {scope : Scope} {cs : List ME} {me m : ME} {ev : Mini.Env → Store → Out Mini.Iter} (G : Good T W k S X) (h2 : S.N[i]? = some x) (h3 : isLocal (blkSc S scope x) x = true) (h4 : blkC S.N S.sc scope [(x, i)] = true)
    (hi : PID X (.Name x px) it ev) (hs : ∀ v, foldedSetIterable it X.env v = pure v) (hc : ∀ X' : L2.Cx, Good T W k (blkSc S scope x) X' → PTD X' ifs (cx W k) cs) (he : ∀ X' : L2.Cx, Good T W k (blkSc S scope x) X' → PE X' e (tE X'.K (Mini.evE (cx W k) me)))
    (hm : ∀ env st, Mini.evE (cx W k) m env st = (ev env st).bind fun J s2 => Mini.lcRun J (fun v s => match Mini.setG (.nm i) v env with
      | none => .bad
      | some env2 => (Mini.tsts (cx W k) cs env2 s).bind fun b s3 => if b then (Mini.evE (cx W k) me env2 s3).bind fun y s4 => .ok (some y) s4 else .ok none s3) s2) : LcOk X (.ListComp e [⟨.Name x px, it, ifs, 0⟩] scope pos) (cx W k) m := by
  obtain ⟨wi, pi, kw⟩ := hi.ok
  have hN := G.hN
  have hS := G.sc
  have hi' : X.N[i]? = some x := by rw [hN]; exact h2
  have bk : BlkOk X.N X.env.scope scope [(x, i)] := by rw [hN, hS]; exact blkOk_by h4
  have g1 : ∀ (s : Shared) (H : Hp) (C : Addr) (cl : List (Str × Addr)) (fp : List Addr), PG (X.blk s H scope (compEnvC scope cl C X.env) fp) (.Name x px) (gName i) := fun s H C cl fp => by
    obtain ⟨l1, l2⟩ := loc_of (G.blk s H C cl fp) h3
    exact pg_name G.nd hi' l1 l2
  have g2 : ∀ (s : Shared) (H : Hp) (C : Addr) (cl : List (Str × Addr)) (fp : List Addr), PTs (X.blk s H scope (compEnvC scope cl C X.env) fp) ifs (tT X.K (Mini.tsts (cx W k) cs)) := fun s H C cl fp => (hc _ (G.blk s H C cl fp)).ok
  have g3 : ∀ (s : Shared) (H : Hp) (C : Addr) (cl : List (Str × Addr)) (fp : List Addr), PE (X.blk s H scope (compEnvC scope cl C X.env) fp) e (tE X.K (Mini.evE (cx W k) me)) := fun s H C cl fp => he _ (G.blk s H C cl fp)
  refine ⟨tLc wi (gName i) (tT X.K (Mini.tsts (cx W k) cs)) (tE X.K (Mini.evE (cx W k) me)) [i], pe_lc (own := [(x, i)]) G.calm G.nd pi bk g1 g2 g3 hs, fun i2 y py sp hy hyl hsw => ps_setLc (own := [(x, i)]) G.calm G.nd hy hyl hsw pi bk g1 g2 g3 hs, fun σ H Q h => lc_deep kw ?_⟩
  obtain ⟨ρ, env, st, rs, re, h⟩ := h
  rw [hm] at h
  exact ⟨ρ, env, st, rs, re, h⟩
theorem lc_seq {i : Nat} {x : Str} {px : Pos} {e it : Expr} {ifs : List Expr} {scope : Scope} {cs : List ME} {mi me : ME} (G : Good T W k S X) (h2 : S.N[i]? = some x) (h3 : isLocal (blkSc S scope x) x = true) (h4 : blkC S.N S.sc scope [(x, i)] = true)
    (hi : PE X it (tE X.K (Mini.evE (cx W k) mi))) (hs : notSet it = true) (hc : ∀ X' : L2.Cx, Good T W k (blkSc S scope x) X' → PTD X' ifs (cx W k) cs) (he : ∀ X' : L2.Cx, Good T W k (blkSc S scope x) X' → PE X' e (tE X'.K (Mini.evE (cx W k) me))) :
    LcOk X (.ListComp e [⟨.Name x px, it, ifs, 0⟩] scope pos) (cx W k) (.lcS (.nm i) mi cs me) := by
  refine lc_any G h2 h3 h4 (i_seq hi) (notSet_fold hs _) hc he fun env st => ?_
  simp only [Mini.evE]
  cases Mini.evE (cx W k) mi env st <;> rfl
theorem lc_r1 {i : Nat} {x : Str} {px py q : Pos} {e a : Expr} {ifs : List Expr} {scope : Scope} {cs : List ME} {mi me : ME} (G : Good T W k S X) (h2 : S.N[i]? = some x) (h3 : isLocal (blkSc S scope x) x = true) (h4 : blkC S.N S.sc scope [(x, i)] = true)
    (hg : Gl X "range") (hm : X.mg "range" = none) (hi : PE X a (tE X.K (Mini.evE (cx W k) mi))) (hp : plainE a = true) (hc : ∀ X' : L2.Cx, Good T W k (blkSc S scope x) X' → PTD X' ifs (cx W k) cs)
    (he : ∀ X' : L2.Cx, Good T W k (blkSc S scope x) X' → PE X' e (tE X'.K (Mini.evE (cx W k) me))) :
    LcOk X (.ListComp e [⟨.Name x px, .Call (.Name "range" py) [a] [] q, ifs, 0⟩] scope pos) (cx W k) (.lcR1 (.nm i) mi cs me) := by
  refine lc_any G h2 h3 h4 (i_rng1 hg hm hi (star_of hp _ _)) (fun _ => rfl) hc he fun env st => ?_
  simp only [Mini.evE]
  cases Mini.evE (cx W k) mi env st <;> rfl
theorem lc_r2 {i : Nat} {x : Str} {px py q : Pos} {e a b : Expr} {ifs : List Expr} {scope : Scope} {cs : List ME} {mi mj me : ME} (G : Good T W k S X) (h2 : S.N[i]? = some x) (h3 : isLocal (blkSc S scope x) x = true) (h4 : blkC S.N S.sc scope [(x, i)] = true)
    (hg : Gl X "range") (hm : X.mg "range" = none) (hi : PE X a (tE X.K (Mini.evE (cx W k) mi))) (hj : PE X b (tE X.K (Mini.evE (cx W k) mj))) (hp : plainE a = true) (hp2 : plainE b = true) (hc : ∀ X' : L2.Cx, Good T W k (blkSc S scope x) X' → PTD X' ifs (cx W k) cs)
    (he : ∀ X' : L2.Cx, Good T W k (blkSc S scope x) X' → PE X' e (tE X'.K (Mini.evE (cx W k) me))) :
    LcOk X (.ListComp e [⟨.Name x px, .Call (.Name "range" py) [a, b] [] q, ifs, 0⟩] scope pos) (cx W k) (.lcR2 (.nm i) mi mj cs me) := by
  refine lc_any G h2 h3 h4 (i_rng2 hg hm hi hj (star_of hp _ _) (star_of hp2 _ _)) (fun _ => rfl) hc he fun env st => ?_
  simp only [Mini.evE]
  cases Mini.evE (cx W k) mi env st with
  | ok y s =>
    simp only [Out.bind_ok]
    cases Mini.evE (cx W k) mj env s <;> rfl
  | exc _ _ => rfl
  | bad => rfl
/-! ### attributes, methods, instances -/
theorem all_star : ∀ {es : List Expr}, (es.all plainE = true) → ∀ (env : Env) (pos : Pos), (backTo pos (starEach es env)).all (fun x => !x.1) = true
  | [], _, _, _ => rfl
  | a :: r, h, env, pos => by
    rw [List.all_cons, Bool.and_eq_true] at h
    rw [star_of h.1]
    show (true && (backTo pos (starEach r env)).all (fun x => !x.1)) = true
    rw [all_star h.2] <;> rfl
theorem kwOk_ne {env : PySem.Env} {pos : Pos} {kw : Keyword} {kws : List Keyword} : (backToKw pos (keywordEach (kw :: kws) env)).isEmpty = false := by
  obtain ⟨_ | x, e, kp⟩ := kw <;> rfl
theorem m_mcl {c f : Nat} {nm : Str} {apos : Pos} {o : Expr} {mo : ME} {es : List Expr} {l : List ME} {dl : List MV} (G : Good T W k S X) (hf : nm ∉ flds) (hline : (apos.endLine == pos.line) = true) (hlen : es.length < 29) (hb : notCall o = true) (hmode : (c, nm, f, dl) ∈ T.meths) (hdl : consOk (l.drop es.length) dl)
    (ho : PE X o (tE X.K (Mini.evE (cx W k) mo))) (ha : PA X es (tA X.K (Mini.evEs (cx W k) (l.take es.length)))) (hpl : es.all plainE = true) : PE X (.Call (.Attribute o nm apos) es [] pos) (tE X.K (Mini.evE (cx W k) (.mcl c f mo l))) := by
  obtain ⟨D, a, fd, ps, ds, dvs, hD, hc, hm, hbi, hd, hcv, F⟩ := G.meths c nm f dl hmode
  have hbase := notCall_base hb nm X.env
  have go : ∀ σ H Q, tE X.K (Mini.evE (cx W k) (.mcl c f mo l)) σ H Q → tMeth D nm (spD X.K W k f) dvs E0 (tE X.K (Mini.evE (cx W k) mo)) (tA X.K (Mini.evEs (cx W k) (l.take es.length))) σ H Q := fun σ H Q h => by
    obtain ⟨ρ, env, st, rs, re, h⟩ := h
    simp only [Mini.evE] at h
    obtain ⟨x, s1, e1, h⟩ := okE_bind h
    refine tE.step rs re e1 fun ρ1 v H1 x1 rs1 re1 rv => ?_
    split at h
    · cases rv with
      | loc h1 =>
        split at h
        · rename_i fs e2
          obtain ⟨_, C2, dx, xs, g1, g2, g3⟩ := rs1.getI e2 h1
          have e5 := ClsAt.uniq g2 hD
          subst e5
          refine ⟨_, dx, xs, rfl, g1, g3.none hf, ?_⟩
          obtain ⟨vs, s2, e3, h⟩ := okE_bind h
          rw [← List.take_append_drop es.length l, evEs_app] at e3
          obtain ⟨ys, s3, e4, e6⟩ := out_bind e3
          rw [consOk_ev _ _ hdl] at e6
          cases e6
          exact tA.step rs1 re1 e4 fun ρ2 us H2 x2 rs2 re2 rvs => ⟨ρ2, _, _, rs2, .cons (.loc (x2.get h1)) (rvs.append hcv.rv), h.mono (x1.trans x2)⟩
        · exact h.elim
    · exact h.elim
  cases es with
  | nil =>
    refine (pe_methG0 (E := E0) ho hc hm F (G.room.mono (by omega)) G.gd hbi hd hbase hline).imp fun σ H Q h => ?_
    have z := go σ H Q h
    obtain ⟨ρ, env, st, rs, re, z⟩ := z
    refine ⟨ρ, env, st, rs, re, ?_⟩
    revert z
    generalize Mini.evE (cx W k) mo env st = oo
    intro z
    cases oo with
    | exc _ _ => exact z
    | bad => exact z
    | ok d s =>
      intro ρ1 v H1 e1 r1 rv
      obtain ⟨a2, dx, fs, h1, h2, h3, q⟩ := z ρ1 v H1 e1 r1 rv
      refine ⟨a2, dx, fs, h1, h2, h3, ?_⟩
      obtain ⟨ρ2, env2, st2, rs2, re2, q⟩ := q
      simp only [List.length_nil, List.take_zero, Mini.evEs] at q
      exact q ρ2 [] H1 .refl rs2 .nil
  | cons e r =>
    have hpl2 := hpl
    rw [List.all_cons, Bool.and_eq_true] at hpl
    refine (pe_methG ho hc hm F (G.room.mono (by omega)) G.gd hbi hd ha hbase ?_ hline (star_of hpl.1 _ _) (any_star hpl.2 _ _)).imp go
    rw [all_star hpl2]
    have : (e :: r).length < 29 := hlen
    simp only [Bool.true_and, Bool.and_eq_true, decide_eq_true_eq]
    exact ⟨rfl, by show (e :: r).length + 0 + 0 < 30; omega⟩
theorem m_mclK {c f : Nat} {nm : Str} {apos : Pos} {o a : Expr} {mo : ME} {es : List Expr} {kw : Keyword} {kws : List Keyword} {l : List ME} {ks : List Str} {fl : List (Option MV)} (G : Good T W k S X) (hf : nm ∉ flds) (hline : (apos.endLine == pos.line) = true) (hsm : es.length + kws.length < 26) (hb : notCall o = true)
    (hmode : (c, nm, f, es.length + 2, ks, fl) ∈ T.kmeths) (hkw : kwOk (kw :: kws) ks = true) (hfl : flOk fl (l.drop (es.length + 1)) = true) (ho : PE X o (tE X.K (Mini.evE (cx W k) mo)))
    (ha : PA X (a :: es) (tA X.K (Mini.evEs (cx W k) (l.take (es.length + 1))))) (hlen : (l.take (es.length + 1)).length = es.length + 1) (hpl : (a :: es).all plainE = true) (hk : PK X (kw :: kws) (tA X.K (Mini.evEs (cx W k) (pick fl (l.drop (es.length + 1)))))) (hkl : (pick fl (l.drop (es.length + 1))).length = ks.length) :
    PE X (.Call (.Attribute o nm apos) (a :: es) (kw :: kws) pos) (tE X.K (Mini.evE (cx W k) (.mcl c f mo l))) := by
  obtain ⟨D, b, fd, ps, g, fv, hD, hc, hm, hbi, hpr, F⟩ := G.kmeths c nm f _ ks fl hmode
  have hbase := notCall_base hb nm X.env
  obtain ⟨k1, k2, k3⟩ := kwOk_all (env := X.env) (pos := pos) hkw
  have hpl2 := hpl
  rw [List.all_cons, Bool.and_eq_true] at hpl
  have hst := star_of hpl.1 es X.env
  refine (pe_methKG (E := E0) ho hc hm F (G.room.mono (by omega)) G.gd hbi ha hk k1 k2 hbase ?_ hline hst (by rw [k3, hst]; have z := any_star hpl.2 X.env pos; simp only [backTo, List.map_cons, List.any_cons, Bool.false_or, Bool.or_false] at z ⊢; exact z)).imp fun σ H Q h => ?_
  · rw [all_star hpl2, k1, kwOk_ne]
    simp only [Bool.true_and, decide_eq_true_eq, List.length_cons, Bool.false_eq_true, if_false]
    omega
  obtain ⟨ρ, env, st, rs, re, h⟩ := h
  simp only [Mini.evE] at h
  obtain ⟨x, s1, e1, h⟩ := okE_bind h
  refine tE.step rs re e1 fun ρ1 v H1 x1 rs1 re1 rv => ?_
  split at h
  · cases rv with
    | loc h1 =>
      split at h
      · rename_i fs e2
        obtain ⟨_, C2, dx, xs, g1, g2, g3⟩ := rs1.getI e2 h1
        have e5 := ClsAt.uniq g2 hD
        subst e5
        refine ⟨_, dx, xs, rfl, g1, g3.none hf, ?_⟩
        obtain ⟨vs, s2, e3, h⟩ := okE_bind h
        rw [← List.take_append_drop (es.length + 1) l, evEs_app] at e3
        obtain ⟨ys, s3, e4, e6⟩ := out_bind e3
        obtain ⟨ws, s4, e7, e8⟩ := out_bind e6
        cases e8
        rw [fl_ev _ _ hfl] at e7
        obtain ⟨zs, s5, e9, e10⟩ := out_bind e7
        cases e10
        refine tA.step rs1 re1 e4 fun ρ2 us H2 x2 rs2 re2 rvs => tA.step rs2 re2 e9 fun ρ3 ws H3 x3 rs3 re3 rvz => ⟨?_, ?_, ?_⟩
        · rw [← rvs.length, evEs_len _ _ e4, hlen]
        · rw [← rvz.length, evEs_len _ _ e9, hkl]
        · exact ⟨ρ3, _, _, rs3, .cons (.loc (x3.get (x2.get h1))) ((rvs.mono x3).append (fill_rv hpr rvz)), h.mono ((x1.trans x2).trans x3)⟩
      · exact h.elim
  · exact h.elim
theorem m_mk {c f : Nat} {x : Str} {p : Pos} {es : List Expr} {l : List ME} {dl : List MV} (G : Good T W k S X) (hg : isGl S.sc x = true) (hx : okName x = true) (hcx : clss[c]? = some x) (hmode : (c, f, dl) ∈ T.mks) (hdl : consOk (l.drop es.length) dl)
    (ha : PA X es (tA X.K (Mini.evEs (cx W k) (l.take es.length)))) (hpl : es.all plainE = true) : PE X (.Call (.Name x p) es [] pos) (tE X.K (Mini.evE (cx W k) (.mk c f l))) := by
  obtain ⟨D, y, a, fd, ps, ds, dvs, hy, hm, hD, M, hb, hd, hcv, F⟩ := G.mks c f dl hmode
  rw [hcx] at hy
  cases hy
  obtain ⟨h1, h2, h3⟩ := okName_of hx
  have go : ∀ σ H Q, tE X.K (Mini.evE (cx W k) (.mk c f l)) σ H Q → tMake D (spD X.K W k f) dvs E0 (tA X.K (Mini.evEs (cx W k) (l.take es.length))) σ H Q := fun σ H Q h => by
    obtain ⟨ρ, env, st, rs, re, h⟩ := h
    simp only [Mini.evE] at h
    obtain ⟨vs, s1, e1, h⟩ := okE_bind h
    rw [← List.take_append_drop es.length l, evEs_app] at e1
    obtain ⟨xs, s2, e2, e3⟩ := out_bind e1
    rw [consOk_ev _ _ hdl] at e3
    cases e3
    refine tA.step rs re e2 fun ρ1 us H1 x1 rs1 re1 rvs x dx hx hdx ne => ?_
    obtain ⟨r1, r2⟩ := rs1.newI hD hx hdx ne
    have hloc : (ρ1 ++ [x])[s1.length]? = some x := by
      rw [← rs1.len]
      simp
    refine ⟨_, _, _, r1, .cons (.loc hloc) ((rvs.append hcv.rv).mono r2), ?_⟩
    obtain ⟨r, s3, e4, h⟩ := okE_bind h
    show OkE _ _ _ (Mini.callK W k f (.loc s1.length :: (xs ++ dl)) (s1 ++ [.ins c []])) _
    have e5 : Mini.callK W k f (.loc s1.length :: (xs ++ dl)) (s1 ++ [.ins c []]) = .ok r s3 := e4
    rw [e5]
    split at h
    · intro ρ3 v H3 x3 rs3 rv
      cases rv
      exact ⟨rfl, h ρ3 (.ref x) H3 ((x1.trans r2).trans x3) rs3 (.loc (x3.get hloc))⟩
    · exact h.elim
  cases es with
  | nil =>
    refine (pe_makeG0 (E := E0) M F G.room G.gd (gl_of G hg) hm hb hd h1).imp fun σ H Q h => ?_
    have z := go σ H Q h
    obtain ⟨ρ, env, st, rs, re, z⟩ := z
    simp only [List.length_nil, List.take_zero, Mini.evEs] at z
    exact z ρ [] H .refl rs .nil
  | cons e r =>
    rw [List.all_cons, Bool.and_eq_true] at hpl
    exact (pe_makeG M F G.room G.gd (gl_of G hg) hm hb hd ha h1 (star_of hpl.1 _ _) (any_star hpl.2 _ _)).imp go
theorem m_cin {op : CmpOp} {neg : Bool} {c f : Nat} {a b : Expr} {ma mb : ME} (G : Good T W k S X) (hop : (match op, neg with
      | .In, false => true
      | .NotIn, true => true
      | _, _ => false) = true) (hb : notSet b = true) (hmode : (c, ("__contains__" : Str), f, ([] : List MV)) ∈ T.meths) (ha : PE X a (tE X.K (Mini.evE (cx W k) ma))) (ho : PE X b (tE X.K (Mini.evE (cx W k) mb))) :
    PE X (.Compare a [op] [b] pos) (tE X.K (Mini.evE (cx W k) (.cin neg c f ma mb))) := by
  obtain ⟨D, g, fd, ps, ds, dvs, hD, hc, hm, hbi, hd, hcv, F⟩ := G.meths c "__contains__" f [] hmode
  cases hcv
  cases hd
  have e : op = if neg then CmpOp.NotIn else CmpOp.In := by
    cases neg <;> cases op <;> first | rfl | cases hop
  have hR := op_own (E := E0) (D := D) neg hm F (G.room.mono (by omega)) G.gd hbi
  rw [← e] at hR
  refine (pe_cmpR hR ha ho (notSet_beh hb _)).imp fun σ H Q h => ?_
  obtain ⟨ρ, env, st, rs, re, h⟩ := h
  simp only [Mini.evE] at h
  obtain ⟨x, s1, e1, h⟩ := okE_bind h
  refine tE.step rs re e1 fun ρ1 v H1 x1 rs1 re1 rv => ?_
  obtain ⟨y, s2, e2, h⟩ := okE_bind h
  refine tE.step rs1 re1 e2 fun ρ2 w H2 x2 rs2 re2 rw' => ?_
  split at h
  · cases rw' with
    | loc h1 =>
      split at h
      · rename_i fs e3
        obtain ⟨_, C2, dx, xs, g1, g2, g3⟩ := rs2.getI e3 h1
        have e5 := ClsAt.uniq g2 hD
        subst e5
        refine ⟨_, dx, xs, rfl, g1, ρ2, _, _, rs2, .cons (.loc h1) (.cons (rv.mono x2) .nil), ?_⟩
        obtain ⟨r, s3, e4, h⟩ := okE_bind h
        show OkE _ _ _ (Mini.callK W k f _ s2) _
        have e6 : Mini.callK W k f [.loc _, x] s2 = .ok r s3 := e4
        rw [e6]
        split at h
        · intro ρ3 u H3 x3 rs3 ru
          cases ru
          exact ⟨_, rfl, h ρ3 _ H3 ((x1.trans x2).trans x3) rs3 (.bl _)⟩
        · exact h.elim
      · exact h.elim
  · exact h.elim
theorem m_dcS {i : Nat} {x : Str} {px : Pos} {kx vx it : Expr} {scope : Scope} {mi mk mv : ME} (G : Good T W k S X) (h2 : S.N[i]? = some x) (h3 : isLocal (blkSc S scope x) x = true) (h4 : blkC S.N S.sc scope [(x, i)] = true)
    (hi : PE X it (tE X.K (Mini.evE (cx W k) mi))) (hs : notSet it = true) (hk : ∀ X' : L2.Cx, Good T W k (blkSc S scope x) X' → PE X' kx (tE X'.K (Mini.evE (cx W k) mk))) (hv : ∀ X' : L2.Cx, Good T W k (blkSc S scope x) X' → PE X' vx (tE X'.K (Mini.evE (cx W k) mv))) :
    PE X (.DictComp kx vx [⟨.Name x px, it, [], 0⟩] scope pos) (tE X.K (Mini.evE (cx W k) (.dcS (.nm i) mi mk mv))) := by
  obtain ⟨wi, pi, kw⟩ := (i_seq (tg := .Name x px) hi).ok
  have hi' : X.N[i]? = some x := by rw [G.hN]; exact h2
  have bk : BlkOk X.N X.env.scope scope [(x, i)] := by rw [G.hN, G.sc]; exact blkOk_by h4
  have g1 : ∀ (s : Shared) (H : Hp) (C : Addr) (cl : List (Str × Addr)) (fp : List Addr), PG (X.blk s H scope (compEnvC scope cl C X.env) fp) (.Name x px) (gName i) := fun s H C cl fp => by
    obtain ⟨l1, l2⟩ := loc_of (G.blk s H C cl fp) h3
    exact pg_name G.nd hi' l1 l2
  have g2 : ∀ (s : Shared) (H : Hp) (C : Addr) (cl : List (Str × Addr)) (fp : List Addr), PTs (X.blk s H scope (compEnvC scope cl C X.env) fp) [] (tT X.K (Mini.tsts (cx W k) [])) := fun s H C cl fp => (t_nil (X := X.blk s H scope (compEnvC scope cl C X.env) fp) (C := cx W k)).ok
  refine (pe_dc (own := [(x, i)]) G.calm G.nd pi bk g1 g2 (fun s H C cl fp => hk _ (G.blk s H C cl fp)) (fun s H C cl fp => hv _ (G.blk s H C cl fp)) (notSet_fold hs _)).imp fun σ H Q h => dc_deep kw ?_
  obtain ⟨ρ, env, st, rs, re, h⟩ := h
  simp only [Mini.evE] at h
  refine ⟨ρ, env, st, rs, re, ?_⟩
  have e : ∀ (g : Mini.Iter → Store → Out MV), ((Mini.evE (cx W k) mi env st).bind fun x s1 => (Mini.mkSeq x s1).bind g) = ((Mini.evE (cx W k) mi env st).bind fun x s1 => Mini.mkSeq x s1).bind g := fun g => by
    cases Mini.evE (cx W k) mi env st <;> rfl
  rw [e] at h
  exact h
theorem chk_sound (hW : W.repr = reprPy) : ∀ n : Nat, (∀ (S : Sc) (X : L2.Cx) (e : Expr) (m : ME), Good T W k S X → chkE T n S e m = true → PE X e (tE X.K (Mini.evE (cx W k) m)))
    ∧ (∀ (S : Sc) (X : L2.Cx) (es : List Expr) (ms : List ME), Good T W k S X → chkEs T n S es ms = true → PA X es (tA X.K (Mini.evEs (cx W k) ms)))
    ∧ (∀ (S : Sc) (X : L2.Cx) (o : Option Expr) (fl : Bool) (m : ME), Good T W k S X → chkB T n S o fl m = true → PB X o fl (Mini.evE (cx W k) m))
    ∧ (∀ (S : Sc) (X : L2.Cx) (e : Expr) (m : ME), Good T W k S X → chkT T n S e m = true → PT X e (tT X.K (Mini.tst (cx W k) m)))
    ∧ (∀ (S : Sc) (X : L2.Cx) (es : List Expr) (ms : List ME), Good T W k S X → chkTs T n S es ms = true → PTD X es (cx W k) ms)
    ∧ (∀ (S : Sc) (X : L2.Cx) (kws : List Keyword) (ms : List ME), Good T W k S X → chkEs T n S (kws.map Keyword.value) ms = true → PK X kws (tA X.K (Mini.evEs (cx W k) ms))) := by
  intro n
  induction n with
  | zero => exact ⟨fun _ _ _ _ _ h => by simp [chkE] at h, fun _ _ _ _ _ h => by simp [chkEs] at h, fun _ _ _ _ _ _ h => by simp [chkB] at h, fun _ _ _ _ _ h => by simp [chkT] at h, fun _ _ _ _ _ h => by simp [chkTs] at h, fun _ _ _ _ _ h => by simp [chkEs] at h⟩
  | succ n ih =>
    obtain ⟨hE, hEs, hB, hT, hTs, hK⟩ := ih
    refine ⟨fun S X e m G h => ?_, fun S X es ms G h => ?_, fun S X o fl m G h => ?_, fun S X e m G h => ?_, fun S X es ms G h => ?_, fun S X kws ms G h => ?_⟩
    · have hu : X.A.units + 64 < cLine := by have := G.room.un; omega
      unfold chkE at h
      split at h
      · -- a name
        simp only [slotOk, Bool.and_eq_true, decide_eq_true_eq] at h
        obtain ⟨h1, h2, _⟩ := okName_of h.2
        exact m_var (by rw [G.hN]; exact h.1.1) (by rw [G.sc]; exact vis_of h.1.2) h1 h2
      · have e := of_decide_eq_true h; subst e; exact m_int
      · have e := eq_of_beq h; subst e; exact m_bl
      · exact m_non
      · have e := of_decide_eq_true h; subst e; exact m_str
      · simp only [Bool.and_eq_true] at h
        exact m_bin (bin_of hu h.1.1) (hE _ X _ _ G h.1.2) (hE _ X _ _ G h.2)
      · exact m_neg (hE _ X _ _ G h)
      · exact m_inv (hE _ X _ _ G h)
      · exact m_not (hE _ X _ _ G h)
      · simp only [Bool.and_eq_true] at h
        refine m_and (hE _ X _ _ G h.1) ?_
        have h2 := h.2
        split at h2
        · exact pe_one (hE _ X _ _ G h2)
        · exact hE _ X _ _ G h2
      · simp only [Bool.and_eq_true] at h
        refine m_or (hE _ X _ _ G h.1) ?_
        have h2 := h.2
        split at h2
        · exact pe_one (hE _ X _ _ G h2)
        · exact hE _ X _ _ G h2
      · simp only [Bool.and_eq_true] at h
        exact m_cmp (cmp_of hu h.1.1.1) (hE _ X _ _ G h.1.1.2) (hE _ X _ _ G h.1.2) (notSet_beh h.2 _)
      · simp only [Bool.and_eq_true] at h
        exact m_chain (cmp_of hu h.1.1.1.1.1) (cmp_of hu h.1.1.1.1.2) (hE _ X _ _ G h.1.1.1.2) (hE _ X _ _ G h.1.1.2) (hE _ X _ _ G h.1.2) (notSet_beh h.2 _)
      · simp only [Bool.and_eq_true] at h
        exact m_ite (hT _ X _ _ G h.1.1) (hE _ X _ _ G h.1.2) (hE _ X _ _ G h.2)
      · exact m_tup (hEs _ X _ _ G h)
      · exact m_lst (hEs _ X _ _ G h)
      · -- a call of a def
        simp only [Bool.and_eq_true, decide_eq_true_eq] at h
        obtain ⟨⟨⟨⟨h1, h2⟩, h3⟩, h4⟩, h5⟩ := h
        unfold findMode at h5
        obtain ⟨⟨f2, dl⟩, h6, h7⟩ := List.any_eq_true.mp h5
        simp only [Bool.and_eq_true, beq_iff_eq] at h7
        obtain ⟨rfl, h8⟩ := h7
        exact m_call G h1 h2 h3 h6 h8 (hEs _ X _ _ G h4) (chkEs_plain n h4).1
      · -- a call with keywords
        simp only [Bool.and_eq_true, decide_eq_true_eq] at h
        obtain ⟨⟨⟨⟨h1, h2⟩, h3⟩, h4⟩, h5⟩ := h
        obtain ⟨⟨f2, n2, ks, fl⟩, h6, h7⟩ := List.any_eq_true.mp h5
        simp only [Bool.and_eq_true, beq_iff_eq] at h7
        obtain ⟨⟨⟨⟨rfl, rfl⟩, h8⟩, h9⟩, h10⟩ := h7
        have hp := chkEs_plain n h4
        have hq := chkEs_plain n h10
        exact m_callK G h1 h2 h3 h6 h8 h9 (hEs _ X _ _ G h4) (by rw [← hp.2]; rfl) hp.1 (hK _ X _ _ G h10) (by rw [← hq.2, List.length_map]; exact kwOk_len h8)
      · split at h
        · rename_i z hz
          simp only [Bool.and_eq_true, decide_eq_true_eq] at h
          obtain ⟨⟨⟨⟨⟨⟨⟨h1, h2⟩, h3⟩, h4⟩, h5⟩, h6⟩, h7⟩, h8⟩ := h
          subst h1 h2
          exact m_isiAll G hz h3 h4 h5 h6 h8 (hE _ X _ _ G h7)
        · cases h
      · simp only [Bool.and_eq_true, decide_eq_true_eq] at h
        obtain ⟨⟨⟨⟨⟨⟨h0, h1⟩, h2⟩, h3⟩, h4⟩, h5⟩, h6⟩ := h
        exact m_bi hW G (isi_none h0) h1 (by simpa using h2) h3 h4 h5 (chkEs_plain n h6).1 (hEs _ X _ _ G h6)
      · simp only [Bool.and_eq_true, decide_eq_true_eq] at h
        obtain ⟨⟨⟨⟨⟨h1, h2⟩, h3⟩, h4⟩, h5⟩, h6⟩ := h
        subst h1
        refine m_append (hE _ X _ _ G h4) (hE _ X _ _ G h5) (star_of h6 _ _) (notCall_base h3 _ _) ?_ h2
        rw [star_of h6]
        rfl
      · simp only [Bool.and_eq_true, decide_eq_true_eq] at h
        obtain ⟨⟨⟨⟨⟨h1, h2⟩, h3⟩, h4⟩, h5⟩, h6⟩ := h
        subst h1
        refine m_pop (hE _ X _ _ G h4) (hE _ X _ _ G h5) (star_of h6 _ _) (notCall_base h3 _ _) ?_ h2
        rw [star_of h6]
        rfl
      · simp only [Bool.and_eq_true, decide_eq_true_eq] at h
        obtain ⟨⟨⟨⟨⟨⟨⟨h1, h2⟩, h3⟩, h4⟩, h5⟩, h6⟩, h7⟩, h8⟩ := h
        subst h1
        refine m_insert (hE _ X _ _ G h4) (hE _ X _ _ G h5) (hE _ X _ _ G h6) (star_of h7 _ _) (star_of h8 _ _) (notCall_base h3 _ _) ?_ h2 ?_
        · rw [star_of h7, star_of h8]
          rfl
        · rw [star_of h8]
          rfl
      · simp only [Bool.and_eq_true, decide_eq_true_eq] at h
        obtain ⟨⟨⟨h1, h2⟩, h3⟩, h4⟩ := h
        subst h1
        exact m_bits (hE _ X _ _ G h4) (notCall_base h3 _ _) h2
      · simp only [Bool.and_eq_true, decide_eq_true_eq] at h
        obtain ⟨⟨⟨h1, h2⟩, h3⟩, h4⟩ := h
        obtain ⟨D, g1, g2, g3⟩ := G.atts _ _ _ h2 h1
        exact m_att (hE _ X _ _ G h4) h1 g1 g2 g3 (notCall_base h3 _ _)
      · simp only [Bool.and_eq_true, decide_eq_true_eq] at h
        obtain ⟨⟨⟨⟨⟨⟨h1, h2⟩, h3⟩, h4⟩, h5⟩, h6⟩, h7⟩ := h
        obtain ⟨⟨c2, m2, f2, dl⟩, g1, g2⟩ := List.any_eq_true.mp h7
        simp only [Bool.and_eq_true, beq_iff_eq, decide_eq_true_eq] at g2
        obtain ⟨⟨⟨rfl, rfl⟩, rfl⟩, g3⟩ := g2
        exact m_mcl G h1 h2 h3 h4 g1 g3 (hE _ X _ _ G h5) (hEs _ X _ _ G h6) (chkEs_plain n h6).1
      · simp only [Bool.and_eq_true, decide_eq_true_eq] at h
        obtain ⟨⟨⟨⟨⟨⟨h1, h2⟩, h3⟩, h4⟩, h5⟩, h6⟩, h7⟩ := h
        obtain ⟨⟨c2, m2, f2, n2, ks, fl⟩, g1, g2⟩ := List.any_eq_true.mp h7
        simp only [Bool.and_eq_true, beq_iff_eq, decide_eq_true_eq] at g2
        obtain ⟨⟨⟨⟨⟨⟨rfl, rfl⟩, rfl⟩, rfl⟩, g3⟩, g4⟩, g5⟩ := g2
        have hp := chkEs_plain n h6
        have hq := chkEs_plain n g5
        exact m_mclK G h1 h2 h3 h4 g1 g3 g4 (hE _ X _ _ G h5) (hEs _ X _ _ G h6) (by rw [← hp.2]; rfl) hp.1 (hK _ X _ _ G g5) (by rw [← hq.2, List.length_map]; exact kwOk_len g3)
      · simp only [Bool.and_eq_true, decide_eq_true_eq] at h
        obtain ⟨⟨⟨⟨h1, h2⟩, h3⟩, h4⟩, h5⟩ := h
        obtain ⟨⟨c2, f2, dl⟩, g1, g2⟩ := List.any_eq_true.mp h5
        simp only [Bool.and_eq_true, beq_iff_eq] at g2
        obtain ⟨⟨rfl, rfl⟩, g3⟩ := g2
        exact m_mk G h1 h2 h3 g1 g3 (hEs _ X _ _ G h4) (chkEs_plain n h4).1
      · exact m_dct0
      · simp only [Bool.and_eq_true] at h
        obtain ⟨⟨⟨⟨h1, h2⟩, h3⟩, h4⟩, h5⟩ := h
        obtain ⟨⟨c2, m2, f2, dl⟩, g1, g2⟩ := List.any_eq_true.mp h5
        simp only [Bool.and_eq_true, beq_iff_eq, decide_eq_true_eq, List.isEmpty_iff] at g2
        obtain ⟨⟨⟨rfl, rfl⟩, rfl⟩, rfl⟩ := g2
        exact m_cin G h1 h2 g1 (hE _ X _ _ G h3) (hE _ X _ _ G h4)
      · simp only [Bool.and_eq_true, decide_eq_true_eq, beq_iff_eq] at h
        obtain ⟨⟨⟨⟨⟨⟨⟨h1, h2⟩, h3⟩, h4⟩, h5⟩, h6⟩, h7⟩, h8⟩ := h
        subst h1
        exact m_dcS G h2 h3 h4 (hE _ X _ _ G h5) h6 (fun X' G' => hE _ X' _ _ G' h7) (fun X' G' => hE _ X' _ _ G' h8)
      · simp only [Bool.and_eq_true, decide_eq_true_eq] at h
        obtain ⟨⟨⟨⟨⟨⟨⟨⟨⟨h1, h2⟩, h3⟩, h4⟩, h5⟩, h6⟩, h7⟩, h8⟩, h9⟩, h10⟩ := h
        subst h1 h2
        exact m_tupR G.calm (gl_of G h3) (G.bl _ h5) (gl_of G h4) (G.bl _ h6) (hE _ X _ _ G h9) (hE _ X _ _ G h10) (star_of h7 _ _) (star_of h8 _ _)
      · split at h
        · simp only [Bool.and_eq_true, decide_eq_true_eq] at h
          obtain ⟨rfl, h2⟩ := h
          exact m_rev (hE _ X _ _ G h2)
        · simp only [Bool.and_eq_true] at h
          exact m_sl (hE _ X _ _ G h.1.1) (hB _ X _ _ _ G h.1.2) (hB _ X _ _ _ G h.2)
        · simp only [Bool.and_eq_true] at h
          exact m_ix hu (hE _ X _ _ G h.1.2) (hE _ X _ _ G h.2) (plainIx_of h.1.1)
        · cases h
      · simp only [Bool.and_eq_true, decide_eq_true_eq, beq_iff_eq] at h
        obtain ⟨⟨⟨⟨⟨⟨⟨h1, h2⟩, h3⟩, h4⟩, h5⟩, h6⟩, h7⟩, h8⟩ := h
        subst h1
        exact (lc_seq G h2 h3 h4 (hE _ X _ _ G h5) h6 (fun X' G' => hTs _ X' _ _ G' h7) (fun X' G' => hE _ X' _ _ G' h8)).pe
      · simp only [Bool.and_eq_true, decide_eq_true_eq, beq_iff_eq] at h
        obtain ⟨⟨⟨⟨⟨⟨⟨⟨⟨⟨h1, h2⟩, h3⟩, h4⟩, h5⟩, h6⟩, h7⟩, h8⟩, h9⟩, h10⟩, h11⟩ := h
        subst h1 h5
        exact (lc_r1 G h2 h3 h4 (gl_of G h6) (G.bl _ h7) (hE _ X _ _ G h9) h8 (fun X' G' => hTs _ X' _ _ G' h10) (fun X' G' => hE _ X' _ _ G' h11)).pe
      · simp only [Bool.and_eq_true, decide_eq_true_eq, beq_iff_eq] at h
        obtain ⟨⟨⟨⟨⟨⟨⟨⟨⟨⟨⟨⟨h1, h2⟩, h3⟩, h4⟩, h5⟩, h6⟩, h7⟩, h8⟩, h8b⟩, h9⟩, h9b⟩, h10⟩, h11⟩ := h
        subst h1 h5
        exact (lc_r2 G h2 h3 h4 (gl_of G h6) (G.bl _ h7) (hE _ X _ _ G h9) (hE _ X _ _ G h9b) h8 h8b (fun X' G' => hTs _ X' _ _ G' h10) (fun X' G' => hE _ X' _ _ G' h11)).pe
      · cases h
    · cases es with
      | nil =>
        cases ms with
        | nil => exact m_nil
        | cons _ _ => simp [chkEs] at h
      | cons a r =>
        cases ms with
        | nil => simp [chkEs] at h
        | cons m ms =>
          simp only [chkEs, Bool.and_eq_true] at h
          exact m_cons (hE _ X _ _ G h.1.2) (hEs _ X _ _ G h.2) (star_of h.1.1 _ _)
    · unfold chkB at h
      split at h
      · contradiction
      · rename_i hn
        cases hn
        exact m_b1 (hE _ X _ _ G h)
      · exact m_b0
      · cases h
    · have hu : X.A.units + 64 < cLine := by have := G.room.un; omega
      unfold chkT at h
      split at h
      · simp only [Bool.and_eq_true] at h
        have h2 := h.2
        split at h2
        · exact (m_tand (hT _ X _ _ G h.1) (pw_and1 (hT _ X _ _ G h2))).pt
        · exact (m_tand (hT _ X _ _ G h.1) (pw_of (hT _ X _ _ G h2))).pt
      · simp only [Bool.and_eq_true] at h
        have h2 := h.2
        split at h2
        · exact (m_tor (hT _ X _ _ G h.1) (pw_or1 (hT _ X _ _ G h2))).pt
        · exact (m_tor (hT _ X _ _ G h.1) (pw_of (hT _ X _ _ G h2))).pt
      · exact m_tnot (hT _ X _ _ G h)
      · simp only [Bool.and_eq_true] at h
        exact m_tcmp (cmp_of hu h.1.1.1) (hE _ X _ _ G h.1.1.2) (hE _ X _ _ G h.1.2) (notSet_beh h.2 _) (cmp_bl h.1.1.1)
      · simp only [Bool.and_eq_true] at h
        exact m_tchain (cmp_of hu h.1.1.1.1.1) (cmp_of hu h.1.1.1.1.2) (hE _ X _ _ G h.1.1.1.2) (hE _ X _ _ G h.1.1.2) (hE _ X _ _ G h.1.2) (notSet_beh h.2 _)
      · exact (m_tru (hE _ X _ _ G h) fun _ => rfl).congr (tst_eq trivial)
      · exact (m_tru (hE _ X _ _ G h) fun _ => rfl).congr (tst_eq trivial)
      · exact (m_tru (hE _ X _ _ G h) fun _ => rfl).congr (tst_eq trivial)
      · simp only [Bool.and_eq_true] at h
        exact (m_tru (hE _ X _ _ G h.2) fun _ => rfl).congr (tst_eq trivial)
      · exact (m_tru (hE _ X _ _ G h) fun _ => rfl).congr (tst_eq trivial)
      · exact (m_tru (hE _ X _ _ G h) fun _ => rfl).congr (tst_eq trivial)
      · cases h
    · unfold chkTs at h
      split at h
      · contradiction
      · exact t_nil
      · rename_i hn
        cases hn
        exact t_one (hT _ X _ _ G h)
      · cases h
    · cases kws with
      | nil =>
        cases ms with
        | nil => exact mk_nil
        | cons _ _ => simp [chkEs] at h
      | cons a r =>
        cases ms with
        | nil => simp [chkEs] at h
        | cons m ms =>
          obtain ⟨nm, va, kp⟩ := a
          simp only [List.map_cons, chkEs, Bool.and_eq_true] at h
          exact mk_cons (hE _ X _ _ G h.1.2) (hK _ X _ _ G h.2)
end
end DS
end

section
set_option Elab.async false
set_option linter.all false
set_option maxRecDepth 100000
set_option maxHeartbeats 8000000
/-! DeepSound8: statements by the look; defs; the law's end. -/
namespace DS
open PySem PySem.Spec PyProof.Rows L2
open Mini (MV Cell Store Out ME MS MI MG)
section
variable {X : L2.Cx} {T : Tab} {W : Mini.World} {k : Nat} {S : Sc} {pos : Pos}
theorem lc_of (hW : W.repr = reprPy) : ∀ (n : Nat) {e : Expr} {gs : List Comprehension} {scope : Scope} {m : ME}, Good T W k S X → chkE T n S (.ListComp e gs scope pos) m = true → LcOk X (.ListComp e gs scope pos) (cx W k) m
  | 0, _, _, _, _, _, h => by simp [chkE] at h
  | n + 1, e, gs, scope, m, G, h => by
    obtain ⟨hE, hEs, hB, hT, hTs, _⟩ := chk_sound (T := T) (W := W) (k := k) hW n
    unfold chkE at h
    split at h <;> rename_i heq <;> try (cases heq; done)
    · cases heq
      simp only [Bool.and_eq_true, decide_eq_true_eq, beq_iff_eq] at h
      obtain ⟨⟨⟨⟨⟨⟨⟨h1, h2⟩, h3⟩, h4⟩, h5⟩, h6⟩, h7⟩, h8⟩ := h
      subst h1
      exact lc_seq G h2 h3 h4 (hE _ X _ _ G h5) h6 (fun X' G' => hTs _ X' _ _ G' h7) (fun X' G' => hE _ X' _ _ G' h8)
    · cases heq
      simp only [Bool.and_eq_true, decide_eq_true_eq, beq_iff_eq] at h
      obtain ⟨⟨⟨⟨⟨⟨⟨⟨⟨⟨h1, h2⟩, h3⟩, h4⟩, h5⟩, h6⟩, h7⟩, h8⟩, h9⟩, h10⟩, h11⟩ := h
      subst h1 h5
      exact lc_r1 G h2 h3 h4 (gl_of G h6) (G.bl _ h7) (hE _ X _ _ G h9) h8 (fun X' G' => hTs _ X' _ _ G' h10) (fun X' G' => hE _ X' _ _ G' h11)
    · cases heq
      simp only [Bool.and_eq_true, decide_eq_true_eq, beq_iff_eq] at h
      obtain ⟨⟨⟨⟨⟨⟨⟨⟨⟨⟨⟨⟨h1, h2⟩, h3⟩, h4⟩, h5⟩, h6⟩, h7⟩, h8⟩, h8b⟩, h9⟩, h9b⟩, h10⟩, h11⟩ := h
      subst h1 h5
      exact lc_r2 G h2 h3 h4 (gl_of G h6) (G.bl _ h7) (hE _ X _ _ G h9) (hE _ X _ _ G h9b) h8 h8b (fun X' G' => hTs _ X' _ _ G' h10) (fun X' G' => hE _ X' _ _ G' h11)
    · cases h
theorem swaps_dec {e : Expr} {gs : List Comprehension} {scope : Scope} {y : Str} {py : Pos} {l : Nat} {env : Env} : ∃ b, swapsWith (.ListComp e gs scope pos) (some (.Name y py)) l env = pure b ∧ (b = true → env.scope.names.lookup y = some .local) := by
  refine ⟨_, rfl, fun h => ?_⟩
  rw [Bool.and_eq_true, Bool.and_eq_true, Bool.and_eq_true] at h
  have h2 := h.1.1.2
  show env.kindOf y = some .local
  cases e2 : env.kindOf y with
  | none => rw [e2] at h2; cases h2
  | some kk =>
    rw [e2] at h2
    cases kk <;> first | rfl | cases h2
theorem tgts_of (G : Good T W k S X) : ∀ {ts : List Expr} {is : List Nat}, tgtsOk S ts is = true → is.length = ts.length ∧ ∀ (j : Nat) (i : Nat), is[j]? = some i → ∃ x p, ts[j]? = some (.Name x p) ∧ X.N[i]? = some x ∧ Loc X.env.scope x ∧ (X.fn x = true ∨ X.env.scope.names.lookup x = some .local)
  | [], [], _ => ⟨rfl, fun j i h => by simp at h⟩
  | [], _ :: _, h => by simp [tgtsOk] at h
  | .Name x p :: r, i :: t, h => by
    simp only [tgtsOk, tgtOk, Bool.and_eq_true, decide_eq_true_eq] at h
    obtain ⟨h1, h2⟩ := tgts_of G h.2
    refine ⟨by simp [h1], fun j i2 hj => ?_⟩
    cases j with
    | zero =>
      simp at hj
      subst hj
      exact ⟨x, p, rfl, by rw [G.hN]; exact h.1.1, loc_of G h.1.2⟩
    | succ j => exact h2 j i2 (by simpa using hj)
  | a :: r, [], h => by cases a <;> simp [tgtsOk] at h
  | .BoolOp .. :: r, i :: t, h => by simp [tgtsOk] at h
  | .NamedExpr .. :: r, i :: t, h => by simp [tgtsOk] at h
  | .BinOp .. :: r, i :: t, h => by simp [tgtsOk] at h
  | .UnaryOp .. :: r, i :: t, h => by simp [tgtsOk] at h
  | .Lambda .. :: r, i :: t, h => by simp [tgtsOk] at h
  | .IfExp .. :: r, i :: t, h => by simp [tgtsOk] at h
  | .Dict .. :: r, i :: t, h => by simp [tgtsOk] at h
  | .Set .. :: r, i :: t, h => by simp [tgtsOk] at h
  | .ListComp .. :: r, i :: t, h => by simp [tgtsOk] at h
  | .SetComp .. :: r, i :: t, h => by simp [tgtsOk] at h
  | .DictComp .. :: r, i :: t, h => by simp [tgtsOk] at h
  | .GeneratorExp .. :: r, i :: t, h => by simp [tgtsOk] at h
  | .Await .. :: r, i :: t, h => by simp [tgtsOk] at h
  | .Yield .. :: r, i :: t, h => by simp [tgtsOk] at h
  | .YieldFrom .. :: r, i :: t, h => by simp [tgtsOk] at h
  | .Compare .. :: r, i :: t, h => by simp [tgtsOk] at h
  | .Call .. :: r, i :: t, h => by simp [tgtsOk] at h
  | .FormattedValue .. :: r, i :: t, h => by simp [tgtsOk] at h
  | .JoinedStr .. :: r, i :: t, h => by simp [tgtsOk] at h
  | .Constant .. :: r, i :: t, h => by simp [tgtsOk] at h
  | .Attribute .. :: r, i :: t, h => by simp [tgtsOk] at h
  | .Subscript .. :: r, i :: t, h => by simp [tgtsOk] at h
  | .Starred .. :: r, i :: t, h => by simp [tgtsOk] at h
  | .List .. :: r, i :: t, h => by simp [tgtsOk] at h
  | .Tuple .. :: r, i :: t, h => by simp [tgtsOk] at h
  | .Slice .. :: r, i :: t, h => by simp [tgtsOk] at h
theorem g_of (G : Good T W k S X) {tg : Expr} {g : MG} (h : chkG S tg g = true) : PGD X tg g := by
  unfold chkG at h
  split at h
  · simp only [tgtOk, Bool.and_eq_true, decide_eq_true_eq] at h
    obtain ⟨l1, l2⟩ := loc_of G h.2
    exact g_name G.nd (by rw [G.hN]; exact h.1) l1 l2
  · obtain ⟨h1, h2⟩ := tgts_of G h
    exact g_tup G.calm G.nd h2 h1
  · cases h
theorem i_of (hW : W.repr = reprPy) (n : Nat) (G : Good T W k S X) {tg it : Expr} {mi : MI} (h : chkI T n S tg it mi = true) : PID X tg it (Mini.evI (cx W k) mi) := by
  obtain ⟨hE, hEs, hB, hT, hTs, _⟩ := chk_sound (T := T) (W := W) (k := k) hW n
  unfold chkI at h
  split at h
  · simp only [slotOk, Bool.and_eq_true, decide_eq_true_eq] at h
    obtain ⟨h1, h2, _⟩ := okName_of h.2
    exact i_keys (by rw [G.hN]; exact h.1.1) (by rw [G.sc]; exact vis_of h.1.2) h1 h2
  · exact i_seq (hE _ X _ _ G h)
  · simp only [Bool.and_eq_true, decide_eq_true_eq] at h
    obtain ⟨⟨⟨⟨rfl, h2⟩, h3⟩, h4⟩, h5⟩ := h
    exact i_rng1 (gl_of G h2) (G.bl _ h3) (hE _ X _ _ G h5) (star_of h4 _ _)
  · simp only [Bool.and_eq_true, decide_eq_true_eq] at h
    obtain ⟨⟨⟨⟨⟨⟨rfl, h2⟩, h3⟩, h4⟩, h5⟩, h6⟩, h7⟩ := h
    exact i_rng2 (gl_of G h2) (G.bl _ h3) (hE _ X _ _ G h6) (hE _ X _ _ G h7) (star_of h4 _ _) (star_of h5 _ _)
  · simp only [Bool.and_eq_true, decide_eq_true_eq] at h
    obtain ⟨⟨⟨⟨⟨⟨⟨rfl, rfl⟩, h2⟩, h3⟩, h4⟩, h5⟩, h6⟩, h7⟩ := h
    exact i_down (gl_of G h2) (G.bl _ h3) (hE _ X _ _ G h6) (hE _ X _ _ G h7) (fun es => star_of h4 _ _) (fun es => star_of h5 _ _)
  · simp only [Bool.and_eq_true, decide_eq_true_eq] at h
    obtain ⟨⟨⟨⟨⟨h1, rfl⟩, h2⟩, h3⟩, h4⟩, h5⟩ := h
    split at h1
    · exact i_enm (gl_of G h2) (G.bl _ h3) (hE _ X _ _ G h5) (star_of h4 _ _)
    · cases h1
  · cases h
theorem sub_assign {a b : Expr} {p2 : Pos} (h : notSlice b = true) (env : Env) (v : Value) : assign (.Subscript a b p2) env v = (do
      let ov ← holding [v] (eval a env)
      let iv ← holding [v, ov] (eval b env)
      standAt p2
      holding [v, ov, iv] (setItem ov iv v)
      release [v, ov, iv] []) := by
  cases b <;> first | rfl | cases h
theorem sole_swap {e : Expr} (h : notComp e = true) (t : Expr) (l : Nat) (env : Env) : swapsWithSole [t] e l env = pure false := by
  show swapsWith e (some t) l env = pure false
  exact notComp_swap h _ _ _
theorem swapped_none {tg e : Expr} {env : Env} (h : (match tg with
      | .Name _ _ => true
      | _ => notPair e) = true) : swappedStores [tg] e env = pure none := by
  cases tg <;> first | rfl | (cases e <;> first | rfl | cases h)
theorem stmt_sound (hW : W.repr = reprPy) : ∀ n : Nat, (∀ (S : Sc) (X : L2.Cx) (s : Stmt) (m : MS), Good T W k S X → chkS T n S s m = true → PS X s (tS X.K (Mini.evS (cx W k) m)))
    ∧ (∀ (S : Sc) (X : L2.Cx) (ss : List Stmt) (ms : List MS), Good T W k S X → chkSs T n S ss ms = true → PSs X ss (tS X.K (Mini.evSs (cx W k) ms))) := by
  intro n
  induction n with
  | zero => exact ⟨fun _ _ _ _ _ h => by simp [chkS] at h, fun _ _ _ _ _ h => by simp [chkSs] at h⟩
  | succ n ih =>
    obtain ⟨hS, hSs⟩ := ih
    obtain ⟨hE, hEs, hB, hT, hTs, _⟩ := chk_sound (T := T) (W := W) (k := k) hW n
    refine ⟨fun S X s m G h => ?_, fun S X ss ms G h => ?_⟩
    · unfold chkS at h
      split at h
      · simp only [tgtOk, Bool.and_eq_true, decide_eq_true_eq] at h
        obtain ⟨⟨h1, h2⟩, h3⟩ := h
        have lc := lc_of hW n G h3
        obtain ⟨l1, l2⟩ := loc_of G h2
        rename_i y py e gs scope pos sp i me
        have hi : X.N[i]? = some y := by rw [G.hN]; exact h1
        obtain ⟨b, hb, hl⟩ := swaps_dec (pos := pos) (e := e) (gs := gs) (scope := scope) (y := y) (py := py) (l := sp.line) (env := X.env)
        cases b with
        | true =>
          obtain ⟨t, _, t2, t3⟩ := lc.ok
          exact s_asgLc (t2 i y py sp hi (hl rfl) hb) t3
        | false => exact s_asgLc (ps_set G.nd hi l1 lc.pe hb l2) fun _ _ _ z => z
      · simp only [Bool.and_eq_true] at h
        obtain ⟨⟨⟨⟨h1, h2⟩, h3⟩, h4⟩, h5⟩ := h
        exact s_setIx (by have := G.room.un; omega) (hE _ X _ _ G h3) (hE _ X _ _ G h4) (hE _ X _ _ G h5) (sole_swap h2 _ _ _) rfl (sub_assign h1 _)
      · simp only [Bool.and_eq_true, decide_eq_true_eq] at h
        obtain ⟨⟨⟨⟨h1, h2⟩, h3⟩, h4⟩, h5⟩ := h
        obtain ⟨D, g1, g2, g3⟩ := G.atts _ _ _ h2 h1
        exact s_setAt (hE _ X _ _ G h4) (hE _ X _ _ G h5) h1 g1 g2 g3 (notComp_swap h3 _ _ _)
      · simp only [Bool.and_eq_true] at h
        obtain ⟨⟨⟨h1, h2⟩, h3⟩, h4⟩ := h
        refine s_asg (hE _ X _ _ G h2) (g_of G h1) (sole_swap h3 _ _ _) (swapped_none h4) ?_
        unfold chkG at h1
        split at h1
        · rfl
        · rfl
        · cases h1
      · simp only [tgtOk, Bool.and_eq_true, decide_eq_true_eq] at h
        obtain ⟨l1, l2⟩ := loc_of G h.1.2
        exact s_aug G.nd (by rw [G.hN]; exact h.1.1) l1 l2 ip_add aug_add (hE _ X _ _ G h.2)
      · simp only [tgtOk, Bool.and_eq_true, decide_eq_true_eq] at h
        obtain ⟨l1, l2⟩ := loc_of G h.1.2
        exact s_aug G.nd (by rw [G.hN]; exact h.1.1) l1 l2 ip_sub aug_sub (hE _ X _ _ G h.2)
      · simp only [Bool.and_eq_true] at h
        exact s_expr (hE _ X _ _ G h.1) (notComp_swap h.2 _ _ _)
      · exact s_ret (hE _ X _ _ G h)
      · exact s_retN
      · exact s_pass
      · exact s_brk
      · exact s_cont
      · simp only [Bool.and_eq_true] at h
        exact s_ite (hT _ X _ _ G h.1.1) (hSs _ X _ _ G h.1.2) (hSs _ X _ _ G h.2)
      · simp only [Bool.and_eq_true] at h
        exact s_loop G.hp G.calm (i_of hW n G h.1.1.2) (g_of G h.1.1.1) (hSs _ X _ _ G h.2) (notSet_fold h.1.2 _)
      · simp only [Bool.and_eq_true] at h
        exact s_whl G.hp (hT _ X _ _ G h.1) (hSs _ X _ _ G h.2)
      · exact s_lock (hS _ X _ _ G h)
      · exact s_never
      · cases h
    · unfold chkSs at h
      split at h
      · exact ss_kill (hSs _ X _ _ G h)
      · split at h
        · exact ss_nil
        · cases h
      · split at h
        · simp only [Bool.and_eq_true] at h
          exact ss_cons (hS _ X _ _ G h.1) (hSs _ X _ _ G h.2)
        · cases h
end
/-! ### defs -/
structure Glob (T : Tab) (W : Mini.World) (k : Nat) (P : Program) (w : PySem.World) (K : PySem.W.Frag) (mg : Str → Option Value) (base : Heap) : Prop where
  bl : ∀ x, x ∈ T.blts → mg x = none
  fns : ∀ (f : Nat) (x : Str) (dl : List MV), T.fns[f]? = some x → (f, dl) ∈ T.modes → ∃ a fd ps ds dvs, mg x = some (.ref a) ∧ PySem.W.keepIn K (.ref a) = true ∧ Binds K fd ps ds ∧ Vals dvs ds ∧ CVs dl dvs ∧ FnG P w K mg base (2 * k) a fd ps (spD K W k f)
  kfns : ∀ (f n : Nat) (x : Str) (ks : List Str) (fl : List (Option MV)), T.fns[f]? = some x → (f, n, ks, fl) ∈ T.kmodes → ∃ a fd ps g fv, mg x = some (.ref a) ∧ PySem.W.keepIn K (.ref a) = true ∧ KBn K fd ps n ks g (fun vs zs => vs ++ fillIn fv zs) ∧
    Paired (fun (d : Option MV) (v : Option V) => match d, v with | some d, some v => CV d v | none, none => True | _, _ => False) fl fv ∧ FnG P w K mg base (2 * k) a fd ps (spD K W k f)
  atts : ∀ (c f : Nat) (x : Str), (c, f) ∈ T.atts → flds[f]? = some x → ∃ D, ClsAt K c D ∧ Cls K D ∧ NoAttr K D x
  meths : ∀ (c : Nat) (m : Str) (f : Nat) (dl : List MV), (c, m, f, dl) ∈ T.meths → ∃ D a fd ps ds dvs, ClsAt K c D ∧ Cls K D ∧ Meth K D m a ∧ Binds K fd ps ds ∧ Vals dvs ds ∧ CVs dl dvs ∧ FnG P w K mg base (2 * k) a fd ps (spD K W k f)
  kmeths : ∀ (c : Nat) (m : Str) (f n : Nat) (ks : List Str) (fl : List (Option MV)), (c, m, f, n, ks, fl) ∈ T.kmeths → ∃ D a fd ps g fv, ClsAt K c D ∧ Cls K D ∧ Meth K D m a ∧ KBn K fd ps n ks g (fun vs zs => vs ++ fillIn fv zs) ∧
    Paired (fun (d : Option MV) (v : Option V) => match d, v with | some d, some v => CV d v | none, none => True | _, _ => False) fl fv ∧ FnG P w K mg base (2 * k) a fd ps (spD K W k f)
  mks : ∀ (c f : Nat) (dl : List MV), (c, f, dl) ∈ T.mks → ∃ D x a fd ps ds dvs, clss[c]? = some x ∧ mg x = some (.ref D) ∧ ClsAt K c D ∧ Mk K D a ∧ Binds K fd ps ds ∧ Vals dvs ds ∧ CVs dl dvs ∧ FnG P w K mg base (2 * k) a fd ps (spD K W k f)
section
variable {P : Program} {w : PySem.World} {K : PySem.W.Frag} {mg : Str → Option Value} {base : Heap} {T : Tab} {W : Mini.World} {k : Nat}
theorem callK_len {f : Nat} {ds : List MV} {st : Store} {d : Mini.MDef} (hd : W.defs[f]? = some d) {ρ : Rho} {H : Hp} {Q : VK} (h : OkE K ρ H (Mini.callK W (k + 1) f ds st) Q) : ds.length = d.np := by
  simp only [Mini.callK, hd] at h
  unfold Mini.runBody at h
  split at h
  · assumption
  · exact h.elim
theorem RVs.some_of {ρ : Rho} {H : Hp} : ∀ {ds : List MV} {vs : List V} {n : Nat}, RVs K H ρ ds vs → RE K H ρ (ds.map some ++ List.replicate n none) (vs.map some ++ List.replicate n none) := fun {ds vs n} r => by
  have hl := r.length
  refine ⟨by simp [hl], fun i v h => ?_⟩
  by_cases hi : i < ds.length
  · rw [List.getElem?_append_left (by simpa using hi)] at h
    rw [List.getElem?_map] at h
    cases e : ds[i]? with
    | none => rw [e] at h; cases h
    | some y =>
      rw [e] at h
      cases h
      obtain ⟨u, h1, h2⟩ := r.get e
      exact ⟨u, by rw [List.getElem?_append_left (by simp [← hl]; exact hi), List.getElem?_map, h1] <;> rfl, h2⟩
  · rw [List.getElem?_append_right (by simpa using hi)] at h
    rw [List.getElem?_replicate] at h
    split at h <;> cases h
/-- a def by the look -/
theorem fn_sound {fi n : Nat} {d : Mini.MDef} {st : Stmt} {x qual : Str} {N ps : List Str} {f : Addr} {fd : FuncData} (hW : W.repr = reprPy) (F : FunX K x qual st f fd) (S : FnScope N ps (defScope st)) (hd : W.defs[fi]? = some d) (hnp : d.np = ps.length) (hns : d.ns = N.length)
    (hchk : chkSs T n ⟨N, defScope st, N⟩ (defBody st) d.body = true) (G : Glob T W k P w K mg base) : FnG P w K mg base (2 * (k + 1)) f fd ps (spD K W (k + 1) fi) := by
  show FnG P w K mg base (2 * k + 1 + 1) f fd ps (spD K W (k + 1) fi)
  refine fnG_of F S (fun vs H Q E h => ?_) fun cdv A outer s H vs Q E hr hgd h => ?_
  · obtain ⟨ρ, st0, ds, rs, rv, h⟩ := h
    rw [← rv.length, callK_len hd h, hnp]
  · obtain ⟨ρ, st0, ds, rs, rv, h⟩ := h
    have G2 : Good T W k ⟨N, defScope st, N⟩ (cxOf CX0 P w K mg base N qual (defScope st) f cdv A outer s H E).nox := ⟨rfl, S.nd, rfl, fun _ _ => rfl, rfl, hr, hgd, PassesOwn.never, G.bl, G.fns, G.kfns, G.atts, G.meths, G.kmeths, G.mks⟩
    refine ⟨_, (stmt_sound hW n).2 _ _ _ _ G2 hchk, ?_⟩
    have hl := callK_len hd h
    simp only [Mini.callK, hd] at h
    unfold Mini.runBody at h
    rw [if_pos hl] at h
    obtain ⟨c, s1, e1, h⟩ := okE_bind h
    refine ⟨ρ, ds.map some ++ List.replicate (d.ns - ds.length) none, st0, rs, ?_, ?_⟩
    · unfold L2.start
      rw [hns, rv.length]
      exact RVs.some_of rv
    · rw [e1]
      cases c with
      | next e => exact fun ρ1 σ1 H1 x1 rs1 _ => h ρ1 _ H1 x1 rs1 .non
      | ret v => exact fun ρ1 v1 H1 x1 rs1 rv1 => h ρ1 v1 H1 x1 rs1 rv1
      | brk _ => exact h.elim
      | cont _ => exact h.elim
theorem fn_zero {f : Nat} {a : Addr} {fd : FuncData} {ps : List Str} : FnG P w K mg base (2 * 0) a fd ps (spD K W 0 f) :=
  ⟨fun vs H Q E ⟨_, _, _, _, _, h⟩ => h.elim, fun A outer s H args us vs Q E hr hg e0 hb r ⟨_, _, _, _, _, h⟩ => h.elim⟩
end
end DS
end

section
set_option Elab.async false
set_option linter.all false
set_option maxRecDepth 100000
set_option maxHeartbeats 8000000
/-! DeepSound9: the law's end, where no guard runs around the law's call. -/
namespace DS
open PySem PySem.Spec PyProof.Rows L2
open Mini (MV Cell Store Out)
section
variable {W : Mini.World} {K : PySem.W.Frag}
theorem ints_rv {ρ : Rho} {H : Hp} : ∀ ns : List Int, RVs K H ρ (ns.map MV.int) (ns.map V.int)
  | [] => .nil
  | n :: r => .cons (.int n) (ints_rv r)
/-- the script as a cell that is only read -/
theorem sp_start {k fi : Nat} {H : Hp} {a : Addr} {ns : List Int} {Q : VK} {E : XK} (hO : Only H) (hS : SqL K H a (ns.map V.int)) (h : ∃ st, Mini.callK W k fi [.loc 0] [.ro (ns.map MV.int)] = .ok (.bl true) st) (q : ∀ H', Q (.bl true) H') : spD K W k fi [.ref a] H Q E := by
  obtain ⟨st, h⟩ := h
  refine ⟨[a], [.ro (ns.map MV.int)], [.loc 0], ⟨rfl, fun n c b h1 h2 => ?_, fun n m b l l' _ _ h3 _ m1 _ => ?_⟩, .cons (.loc rfl) .nil, ?_⟩
  · have hn : n = 0 := by
      have := (List.getElem?_eq_some_iff.mp h1).1
      simpa using this
    subst hn
    cases h1
    cases h2
    refine ⟨ns.map V.int, ?_, ints_rv ns⟩
    rcases hS with (hS | hS) | hS
    · rcases hO a with z | ⟨o, xs, z⟩
      · rw [z] at hS; cases hS
      · rw [z] at hS; cases hS
    · exact .inl hS
    · exact .inr hS
  · have hn : n = 0 := by
      have := (List.getElem?_eq_some_iff.mp h3).1
      simpa using this
    subst hn
    cases h3
    cases m1
  · rw [h]
    intro ρ' v H' _ _ rv
    cases rv
    exact q H'
end
theorem callG {P : Program} {w : PySem.World} {K : PySem.W.Frag} {mg mb : Str → Option Value} {k : Nat} {fa a : Addr} {fd : FuncData} {x : Str} {sp : Sp} {s1 : Shared} {vs : List Value} {ns : List Int}
    (KX : K.In s1.heap) (hns : s1.heap.Ns mainGlobals mg) (hb : s1.heap.Ns builtinsNs mb) (hbb : ∀ x : Str, x ≠ "__name__" → mb x = bootBuiltins x) (hlim : s1.heap.NoLimit) (hg : s1.gens = #[])
    (ha : s1.heap.get? a = some { cls := .type "list", data := .seq vs.toArray }) (hi : IntsAre vs ns) (hl : ns.length ≤ sizeLine) (hr : Room k callerA)
    (F : ∀ base : Heap, K.In base → base.Ns mainGlobals mg → FnG P w K mg base k fa fd [x] sp) (hbind : ∀ (s : Shared) (u : Value), BindsTo s fd ⟨[u], []⟩ [(x, u)])
    (hsp : ∀ H : Hp, Only H → SqL K H a (ns.map V.int) → sp [.ref a] H (fun v _ => v = .bl true) fun _ _ _ => False) :
    codeAny (model P w) callerA (.call (.ref fa) ⟨[.ref a], []⟩) (fun r s' => r = .ok (.ret (.bool true)) ∧ OldK s1.heap s'.heap ∧ s'.os = s1.os ∧ AllBare s'.gens) s1 := by
  have rv := vals_ints hi
  have lenV := hi.length
  have core : ∀ H : Hp, Only H → SqL K H a (ns.map V.int) → HOk P w H s1.heap → (∀ b, H b ≠ none → b = a) → (H a ≠ none → K.lookup a = none) →
      codeAny (model P w) callerA (.call (.ref fa) ⟨[.ref a], []⟩) (fun r s' => r = .ok (.ret (.bool true)) ∧ OldK s1.heap s'.heap ∧ s'.os = s1.os ∧ AllBare s'.gens) s1 := by
    intro H hO hS hok hA hK
    have base_of : ∀ {b : Addr} {o : Obj}, s1.heap.get? b = some o → H b = none → (hidT s1.heap H).get? b = some o := fun e n => hidT_get e n
    have isA : ∀ {b : Addr} {u : HO}, H b = some u → b = a := fun {b u} q => hA b (by rw [q]; simp)
    have free : ∀ {b : Addr} {o : Obj}, s1.heap.get? b = some o → (b = a → False) → H b = none := fun {b o} e z => by
      cases q : H b with
      | none => rfl
      | some u => exact (z (isA q)).elim
    have noA : ∀ {b : Addr} {o : Obj} {es : Array DictEntry} {ep : Nat}, s1.heap.get? b = some o → o.data = .dict es ep → H b = none := fun {b o es ep} e d => free e fun z => by
      subst z
      rw [ha] at e
      cases e
      cases (show Data.seq vs.toArray _ = Data.dict es ep from d)
    have nsK : ∀ {b : Addr} {m : Str → Option Value}, s1.heap.Ns b m → (hidT s1.heap H).Ns b m := fun {b m} ⟨o, es, ep, e, d, r⟩ => ⟨o, es, ep, base_of e (noA e d), d, r⟩
    have hKb : K.In (hidT s1.heap H) := fun b o e => base_of (KX b o e) (by
      cases q : H b with
      | none => rfl
      | some u =>
        have z := isA q
        subst z
        rw [hK (by rw [q]; simp)] at e
        cases e)
    have hM : Mod K mg (hidT s1.heap H) := ⟨hKb, nsK hns, ⟨mb, nsK hb, hbb⟩, let ⟨mc, h1, h2⟩ := hlim; ⟨mc, nsK h1, h2⟩⟩
    have e0 : Env0 P w K mg (hidT s1.heap H) callerA [] s1 H := ⟨rfl, hM, fun b o e => of_hidT e, Nat.le_of_eq (hidT_size _ _), trivial, fun b hb => absurd (show b ∈ ([] : List Addr) from hb) (by simp), hok, .of_eq hg⟩
    have run := (F _ hKb (nsK hns)).run callerA [] s1 H ⟨[.ref a], []⟩ [.ref a] [.ref a] _ _ hr rfl e0 (hbind s1 (.ref a)) (.cons rfl .nil) (hsp H hO hS)
    refine codeAny_mono run fun r s' h => ?_
    match r, h with
    | .error e, h => exact h.elim
    | .ok (.ret u), h =>
      obtain ⟨v, H', os, bare, un, hok', r', q⟩ := h
      have q' : v = .bl true := q
      subst q'
      obtain rfl : u = Value.bool true := r'
      refine ⟨rfl, OldK.of_keep fun b o e => ?_, os, bare⟩
      cases q : H b with
      | none => exact un.keep b o e q (by intro z; exact absurd (show b ∈ ([] : List Addr) from z) (by simp)) (by simp)
      | some u =>
        rcases hO b with z | ⟨ob, xs, z⟩
        · rw [q] at z; cases z
        · obtain ⟨e1, _⟩ := hok b _ z
          obtain ⟨e2, _⟩ := hok' b _ (un.frzs b ob _ z)
          rw [e] at e1
          cases e1
          exact e2
  cases hk : K.lookup a with
  | some o =>
    have e := KX a o hk
    rw [ha] at e
    cases e
    exact core (fun _ => none) (fun _ => .inl rfl) (.inr ⟨_, vs.toArray, _, hk, rfl, rfl, rfl, by rw [List.size_toArray, lenV]; exact hl, by simpa using rv⟩) (fun b u z => by cases (show (none : Option HO) = some u from z)) (fun b z => absurd rfl z) fun z => absurd rfl z
  | none =>
    have hpos : ∀ b, (if b = a then some (HO.frz { cls := .type "list", data := .seq vs.toArray } (.lst (ns.map V.int))) else none) ≠ none → b = a := fun b z => by
      by_cases hb : b = a
      · exact hb
      · exact absurd (if_neg hb) z
    refine core (fun b => if b = a then some (.frz { cls := .type "list", data := .seq vs.toArray } (.lst (ns.map V.int))) else none) (fun b => ?_) (.inl (.inr ⟨{ cls := .type "list", data := .seq vs.toArray }, if_pos rfl⟩)) (fun b u z => ?_) hpos fun _ => hk
    · by_cases hb : b = a
      · exact .inr ⟨_, _, if_pos hb⟩
      · exact .inl (if_neg hb)
    · have hb := hpos b (fun y => by have := z.symm.trans y; cases this)
      have z' := (if_pos hb).symm.trans z
      cases z'
      subst hb
      exact ⟨ha, by rw [List.length_map]; exact hl, vs, _, rv, ha⟩
/-- the end: from the law's def as Mini runs it -/
theorem walkG {l : PySem.W.OpenLaw} {n k fi : Nat} {q : Program} {loose : List Str} {XP : (Str → Option Value) → Heap → Prop} {YP : PySem.World → Heap → Prop} {d : DefRec} {K : Params → PySem.W.Frag} {W : Mini.World} {x : Str}
    (hn : l.most = some n) (hn2 : n ≤ sizeLine) (hdf : d.params.defaults = []) (hr : Room (2 * k) callerA) (hY : ∀ (w : PySem.World) (h : Heap), YP w h → (K w.params).In h)
    (F : ∀ (w : PySem.World) (mg : Str → Option Value) (fa : Addr) (h : Heap), (K w.params).In h → h.Ns mainGlobals mg → mg d.name = some (.ref fa) →
      ∃ fd : FuncData, (∀ (s : Shared) (u : Value), BindsTo s fd ⟨[u], []⟩ [(x, u)]) ∧ ∀ base : Heap, (K w.params).In base → base.Ns mainGlobals mg → FnG l.prog w (K w.params) mg base (2 * k) fa fd [x] (spD (K w.params) W k fi))
    (hrun : ∀ ns : List Int, ns.length ≤ n → ∃ st, Mini.callK W k fi [.loc 0] [.ro (ns.map MV.int)] = .ok (.bl true) st) :
    PySem.W.WalkO q loose XP YP l.row.toRowW d [] (fun f vs => PySem.call f vs) := by
  refine Att.attach_call hn hdf fun w s0 s1 mg mb fa o pm cd doc a vs ns G Y ho hd hcd hmg hobj hints hlen hg => ?_
  have KX := hY w _ Y
  obtain ⟨fd, hb, hF⟩ := F w mg fa _ KX G.T.g hmg
  exact callG KX G.T.g G.T.b G.T.builtins G.T.nolimit hg hobj hints (Nat.le_trans hlen hn2) hr hF hb fun H hO hS => sp_start hO hS (hrun ns hlen) fun _ => rfl
end DS
end

section
set_option Elab.async false
set_option linter.all false
set_option maxRecDepth 100000
set_option maxHeartbeats 8000000
/-! DeepGlue: from what stands in the program's globals to the defs' promises, at every level of calls. -/
namespace DS
open PySem PySem.Spec PyProof.Rows L2
open Mini (MV Cell Store Out)
/-- what is known of one def -/
structure Ent (T : Tab) (W : Mini.World) (K : PySem.W.Frag) (mg : Str → Option Value) (f : Nat) (x : Str) (dl : List MV) : Prop where
  ex : ∃ (a : Addr) (fd : FuncData) (ps N : List Str) (ds : List Value) (dvs : List V) (st : Stmt) (n : Nat) (d : Mini.MDef), mg x = some (.ref a) ∧ FunX K x x st a fd ∧ Binds K fd ps ds ∧ Vals dvs ds ∧ CVs dl dvs ∧ FnScope N ps (defScope st) ∧ W.defs[f]? = some d ∧ d.np = ps.length ∧ d.ns = N.length ∧
    chkSs T n ⟨N, defScope st, N⟩ (defBody st) d.body = true
theorem ent_fn {T : Tab} {W : Mini.World} {K : PySem.W.Frag} {mg : Str → Option Value} {f : Nat} {x : Str} {dl : List MV} {P : Program} {w : PySem.World} {base : Heap} (hW : W.repr = reprPy) (E : Ent T W K mg f x dl) {k : Nat} (G : ∀ j, j < k → Glob T W j P w K mg base) :
    ∃ a fd ps ds dvs, mg x = some (.ref a) ∧ PySem.W.keepIn K (.ref a) = true ∧ Binds K fd ps ds ∧ Vals dvs ds ∧ CVs dl dvs ∧ FnG P w K mg base (2 * k) a fd ps (spD K W k f) := by
  obtain ⟨a, fd, ps, N, ds, dvs, st, n, d, h1, F, hb, hv, hc, S, hd, hnp, hns, hchk⟩ := E.ex
  refine ⟨a, fd, ps, ds, dvs, h1, F.kp, hb, hv, hc, ?_⟩
  cases k with
  | zero => exact fn_zero
  | succ k => exact fn_sound hW F S hd hnp hns hchk (G k (Nat.lt_succ_self k))
def mkFv {α : Type} : List Bool → List α → List (Option α)
  | [], _ => []
  | true :: r, mv => none :: mkFv r mv
  | false :: r, v :: mv => some v :: mkFv r mv
  | false :: _, [] => []
theorem fill_vals : ∀ {pat : List Bool} {mz zs : List V} {mv ws : List Value}, Vals mz mv → Vals zs ws → Vals (fillIn (mkFv pat mz) zs) (fillIn (mkFv pat mv) ws)
  | [], _, _, _, _, _, _ => by simp only [mkFv, fillIn]; exact .nil
  | true :: r, mz, _, mv, _, a, .nil => by simp only [mkFv, fillIn]; exact .nil
  | true :: r, mz, _, mv, _, a, .cons h b => by simp only [mkFv, fillIn]; exact .cons h (fill_vals a b)
  | false :: r, _, zs, _, ws, .nil, b => by simp only [mkFv, fillIn]; exact .nil
  | false :: r, _, zs, _, ws, .cons h a, b => by simp only [mkFv, fillIn]; exact .cons h (fill_vals a b)
/-- keyword-only parameters: some written, the others filled in -/
theorem kb_of {K : PySem.W.Frag} {x qual : Str} {params : Arguments} {body : List Stmt} {scope : Scope} {kws : List (Str × V)} {f : Addr} {fd : FuncData} {ps : List Str} (F : FunD K x qual params body scope [] kws f fd) (n : Nat) (ks : List Str) (ms : List (Str × V)) (pat : List Bool) (hk : kws ≠ []) (hms : ∀ q ∈ ms, q ∈ kws)
    (h : ∀ (D : Addr) (doc pm : Value) (an : Option Addr) (cdv ct : Value) (us mv ws : List Value), us.length = n → mv.length = ms.length → ws.length = ks.length →
      KwChain D ((ms.map (·.1)).zip mv) (bindArgs (PySem.W.fnOf x qual params body scope .none (.ref D) doc pm an cdv ct) ⟨us, ks.zip ws⟩) (ps.zip (us ++ fillIn (mkFv pat mv) ws))) :
    ∃ g, KBn K fd ps n ks g (fun vs zs => vs ++ fillIn (mkFv pat (ms.map (·.2))) zs) := by
  obtain ⟨mv, hb⟩ := FunD.kbinds0 F n ks ms (fun us mv ws => us ++ fillIn (mkFv pat mv) ws) hk hms (fun a b c => a.append (fill_vals b c)) h
  exact ⟨_, hb⟩
/-- what is known of a def that keywords call -/
structure KEnt (T : Tab) (W : Mini.World) (K : PySem.W.Frag) (mg : Str → Option Value) (f n : Nat) (x : Str) (ks : List Str) (fl : List (Option MV)) : Prop where
  ex : ∃ (a : Addr) (fd : FuncData) (ps N : List Str) (g : List Value → List Value → List Value) (fv : List (Option V)) (st : Stmt) (m : Nat) (d : Mini.MDef), mg x = some (.ref a) ∧ FunX K x x st a fd ∧ KBn K fd ps n ks g (fun vs zs => vs ++ fillIn fv zs) ∧ Paired FlV fl fv ∧ FnScope N ps (defScope st) ∧ W.defs[f]? = some d ∧ d.np = ps.length ∧ d.ns = N.length ∧
    chkSs T m ⟨N, defScope st, N⟩ (defBody st) d.body = true
/-- a method -/
structure MEnt (T : Tab) (W : Mini.World) (K : PySem.W.Frag) (c : Nat) (m : Str) (f : Nat) (dl : List MV) : Prop where
  ex : ∃ (D a : Addr) (fd : FuncData) (qual : Str) (ps N : List Str) (ds : List Value) (dvs : List V) (st : Stmt) (n : Nat) (d : Mini.MDef), ClsAt K c D ∧ Cls K D ∧ Meth K D m a ∧ FunX K m qual st a fd ∧ Binds K fd ps ds ∧ Vals dvs ds ∧ CVs dl dvs ∧ FnScope N ps (defScope st) ∧ W.defs[f]? = some d ∧
    d.np = ps.length ∧ d.ns = N.length ∧ chkSs T n ⟨N, defScope st, N⟩ (defBody st) d.body = true
structure KMEnt (T : Tab) (W : Mini.World) (K : PySem.W.Frag) (c : Nat) (x : Str) (f n : Nat) (ks : List Str) (fl : List (Option MV)) : Prop where
  ex : ∃ (D a : Addr) (fd : FuncData) (qual : Str) (ps N : List Str) (g : List Value → List Value → List Value) (fv : List (Option V)) (st : Stmt) (m : Nat) (d : Mini.MDef), ClsAt K c D ∧ Cls K D ∧ Meth K D x a ∧ FunX K x qual st a fd ∧ KBn K fd ps n ks g (fun vs zs => vs ++ fillIn fv zs) ∧ Paired FlV fl fv ∧
    FnScope N ps (defScope st) ∧ W.defs[f]? = some d ∧ d.np = ps.length ∧ d.ns = N.length ∧ chkSs T m ⟨N, defScope st, N⟩ (defBody st) d.body = true
structure MkEnt (T : Tab) (W : Mini.World) (K : PySem.W.Frag) (mg : Str → Option Value) (c f : Nat) (dl : List MV) : Prop where
  ex : ∃ (D a : Addr) (x : Str) (fd : FuncData) (qual : Str) (ps N : List Str) (ds : List Value) (dvs : List V) (st : Stmt) (n : Nat) (d : Mini.MDef), clss[c]? = some x ∧ mg x = some (.ref D) ∧ ClsAt K c D ∧ Mk K D a ∧ FunX K "__init__" qual st a fd ∧ Binds K fd ps ds ∧ Vals dvs ds ∧ CVs dl dvs ∧ FnScope N ps (defScope st) ∧
    W.defs[f]? = some d ∧ d.np = ps.length ∧ d.ns = N.length ∧ chkSs T n ⟨N, defScope st, N⟩ (defBody st) d.body = true
theorem glob_of {T : Tab} {W : Mini.World} {K : PySem.W.Frag} {mg : Str → Option Value} {P : Program} {w : PySem.World} {base : Heap} (hW : W.repr = reprPy) (hz : ∀ x, x ∈ T.blts → mg x = none)
    (hE : ∀ (f : Nat) (x : Str) (dl : List MV), T.fns[f]? = some x → (f, dl) ∈ T.modes → Ent T W K mg f x dl) (hK : ∀ (f n : Nat) (x : Str) (ks : List Str) (fl : List (Option MV)), T.fns[f]? = some x → (f, n, ks, fl) ∈ T.kmodes → KEnt T W K mg f n x ks fl)
    (hA : ∀ (c f : Nat) (x : Str), (c, f) ∈ T.atts → flds[f]? = some x → ∃ D, ClsAt K c D ∧ Cls K D ∧ NoAttr K D x) (hM : ∀ (c : Nat) (m : Str) (f : Nat) (dl : List MV), (c, m, f, dl) ∈ T.meths → MEnt T W K c m f dl)
    (hKM : ∀ (c : Nat) (m : Str) (f n : Nat) (ks : List Str) (fl : List (Option MV)), (c, m, f, n, ks, fl) ∈ T.kmeths → KMEnt T W K c m f n ks fl) (hMk : ∀ (c f : Nat) (dl : List MV), (c, f, dl) ∈ T.mks → MkEnt T W K mg c f dl) : ∀ k j, j < k → Glob T W j P w K mg base
  | 0, j, hj => absurd hj (Nat.not_lt_zero j)
  | k + 1, j, hj => by
    have ih := glob_of (P := P) (w := w) (base := base) hW hz hE hK hA hM hKM hMk k
    have run : ∀ {f n : Nat} {d : Mini.MDef} {st : Stmt} {x qual : Str} {N ps : List Str} {a : Addr} {fd : FuncData}, FunX K x qual st a fd → FnScope N ps (defScope st) → W.defs[f]? = some d → d.np = ps.length → d.ns = N.length →
        chkSs T n ⟨N, defScope st, N⟩ (defBody st) d.body = true → FnG P w K mg base (2 * j) a fd ps (spD K W j f) := fun {f n d st x qual N ps a fd} F S hd hnp hns hchk => by
      cases j with
      | zero => exact fn_zero
      | succ j => exact fn_sound hW F S hd hnp hns hchk (ih j (by omega))
    refine ⟨hz, fun f x dl h1 h2 => ent_fn hW (hE f x dl h1 h2) fun i hi => ih i (by omega), fun f n x ks fl h1 h2 => ?_, hA, fun c m f dl h1 => ?_, fun c m f n ks fl h1 => ?_, fun c f dl h1 => ?_⟩
    · obtain ⟨a, fd, ps, N, g, fv, st, m, d, e1, F, hb, hp, S, hd, hnp, hns, hchk⟩ := (hK f n x ks fl h1 h2).ex
      exact ⟨a, fd, ps, g, fv, e1, F.kp, hb, hp, run F S hd hnp hns hchk⟩
    · obtain ⟨D, a, fd, qual, ps, N, ds, dvs, st, n, d, e1, e2, e3, F, hb, hv, hc, S, hd, hnp, hns, hchk⟩ := (hM c m f dl h1).ex
      exact ⟨D, a, fd, ps, ds, dvs, e1, e2, e3, hb, hv, hc, run F S hd hnp hns hchk⟩
    · obtain ⟨D, a, fd, qual, ps, N, g, fv, st, n2, d, e1, e2, e3, F, hb, hp, S, hd, hnp, hns, hchk⟩ := (hKM c m f n ks fl h1).ex
      exact ⟨D, a, fd, ps, g, fv, e1, e2, e3, hb, hp, run F S hd hnp hns hchk⟩
    · obtain ⟨D, a, x, fd, qual, ps, N, ds, dvs, st, n, d, e0, e1, e2, e3, F, hb, hv, hc, S, hd, hnp, hns, hchk⟩ := (hMk c f dl h1).ex
      exact ⟨D, x, a, fd, ps, ds, dvs, e0, e1, e2, e3, hb, hv, hc, run F S hd hnp hns hchk⟩
end DS
end

section
set_option linter.all false
set_option maxRecDepth 100000
/-! MiniLib: lemmas about the evaluator. Core Lean only. -/
namespace Mini
theorem callK_eq {W : World} {k f : Nat} {vs : List MV} {st : Store} {d : MDef} (h : W.defs[f]? = some d) (hl : vs.length = d.np) :
    callK W (k + 1) f vs st = (evSs ⟨callK W k, W.repr, W.wf⟩ d.body (vs.map some ++ List.replicate (d.ns - vs.length) none) st).bind endC := by
  simp only [callK, h]
  unfold runBody
  rw [if_pos hl]
/-! ### stores -/
/-- all but the places in w stay -/
structure Keep (w : List Nat) (st st' : Store) : Prop where
  len : st.length ≤ st'.length
  get : ∀ (n : Nat) (c : Cell), n ∉ w → st[n]? = some c → st'[n]? = some c
theorem Keep.refl {w : List Nat} {st : Store} : Keep w st st := ⟨Nat.le_refl _, fun _ _ _ h => h⟩
theorem Keep.trans {w : List Nat} {a b c : Store} (h : Keep w a b) (g : Keep w b c) : Keep w a c := ⟨Nat.le_trans h.len g.len, fun n x hn e => g.get n x hn (h.get n x hn e)⟩
theorem Keep.weak {w : List Nat} {a b : Store} (h : Keep [] a b) : Keep w a b := ⟨h.len, fun n c _ e => h.get n c (by simp) e⟩
theorem Keep.sub {w v : List Nat} {a b : Store} (h : Keep w a b) (s : ∀ x, x ∈ w → x ∈ v) : Keep v a b := ⟨h.len, fun n c hn e => h.get n c (fun z => hn (s n z)) e⟩
theorem Keep.new {st t : Store} : Keep [] st (st ++ t) := ⟨by simp, fun n c _ e => by
  have hn : n < st.length := (List.getElem?_eq_some_iff.mp e).1
  rw [List.getElem?_append_left hn]
  exact e⟩
theorem Keep.set {st : Store} {n : Nat} {c : Cell} : Keep [n] st (st.set n c) := ⟨by simp, fun m x hm e => by
  have : n ≠ m := fun z => hm (by simp [z])
  rw [List.getElem?_set_ne this]
  exact e⟩
/-- a place that was not there before may be forgotten -/
theorem Keep.forget {w : List Nat} {n : Nat} {a b : Store} (h : Keep (n :: w) a b) (hn : a.length ≤ n) : Keep w a b := ⟨h.len, fun m c hm e => by
  have h2 : m < a.length := (List.getElem?_eq_some_iff.mp e).1
  exact h.get m c (by simp only [List.mem_cons, not_or]; exact ⟨by omega, hm⟩) e⟩
theorem lt_of_get {st : Store} {n : Nat} {c : Cell} (h : st[n]? = some c) : n < st.length := (List.getElem?_eq_some_iff.mp h).1
theorem get_new {st : Store} {c : Cell} : (st ++ [c])[st.length]? = some c := by simp
theorem get_set {st : Store} {n : Nat} {c d : Cell} (h : st[n]? = some d) : (st.set n c)[n]? = some c := by
  rw [List.getElem?_set_self (lt_of_get h)]
theorem getL_lst {st : Store} {n : Nat} {l : List MV} (h : st[n]? = some (.lst l)) : getL st n = some l := by simp [getL, h]
theorem getL_ro {st : Store} {n : Nat} {l : List MV} (h : st[n]? = some (.ro l)) : getL st n = some l := by simp [getL, h]
/-! ### loops -/
theorem forLoop_go {J : Iter} {turn : MV → Env → Store → Out Ctl} {l : List MV} (P : Nat → Env → Store → Prop) (hg : ∀ i env st, P i env st → i < l.length → J.get st i = l[i]?) (hs : ∀ env st, P l.length env st → J.stop st l.length = true)
    (ht : ∀ i x env st, l[i]? = some x → P i env st → ∃ env' st', turn x env st = .ok (.next env') st' ∧ P (i + 1) env' st') :
    ∀ (n i : Nat) (env : Env) (st : Store), i + n = l.length → P i env st → ∃ env' st', forLoop J turn n i env st = .ok (.next env') st' ∧ P l.length env' st'
  | 0, i, env, st, hn, h => by
    have e : i = l.length := by omega
    subst e
    exact ⟨env, st, by simp [forLoop, hs env st h], h⟩
  | n + 1, i, env, st, hn, h => by
    have hi : i < l.length := by omega
    have hx : l[i]? = some l[i] := List.getElem?_eq_getElem hi
    obtain ⟨env1, st1, h1, h2⟩ := ht i l[i] env st hx h
    obtain ⟨env2, st2, h3, h4⟩ := forLoop_go P hg hs ht n (i + 1) env1 st1 (by omega) h2
    refine ⟨env2, st2, ?_, h4⟩
    simp only [forLoop, hg i env st h hi, hx, h1, Out.bind_ok, h3]
/-- over range(lo, lo + n) -/
def rngL (lo c : Int) (n : Nat) : List MV := (List.range n).map fun (i : Nat) => MV.int (lo + (i : Int) * c)
theorem forLoop_rng {lo c : Int} {n : Nat} {turn : MV → Env → Store → Out Ctl} (P : Nat → Env → Store → Prop) (ht : ∀ i env st, i < n → P i env st → ∃ env' st', turn (.int (lo + (i : Int) * c)) env st = .ok (.next env') st' ∧ P (i + 1) env' st')
    {env : Env} {st : Store} (h : P 0 env st) : ∃ env' st', forLoop (.rng lo c n) turn n 0 env st = .ok (.next env') st' ∧ P n env' st' := by
  have hl : (rngL lo c n).length = n := by simp [rngL]
  have := forLoop_go (J := .rng lo c n) (turn := turn) (l := rngL lo c n) P (fun i env st _ hi => by
      rw [hl] at hi
      simp [Iter.get, rngL, hi]) (fun env st _ => by simp [Iter.stop, hl]) (fun i x env st hx hp => by
      have hi : i < n := by rw [← hl]; exact (List.getElem?_eq_some_iff.mp hx).1
      have e : x = .int (lo + (i : Int) * c) := by
        simp [rngL, hi] at hx
        exact hx.symm
      rw [e]
      exact ht i env st hi hp) n 0 env st (by omega) h
  rw [hl] at this
  exact this
theorem forLoop_lst {m : Nat} {l : List MV} {turn : MV → Env → Store → Out Ctl} (P : Nat → Env → Store → Prop) (hl : ∀ i env st, P i env st → getL st m = some l) (ht : ∀ i x env st, l[i]? = some x → P i env st → ∃ env' st', turn x env st = .ok (.next env') st' ∧ P (i + 1) env' st')
    {env : Env} {st : Store} (h : P 0 env st) : ∃ env' st', forLoop (.lst m) turn l.length 0 env st = .ok (.next env') st' ∧ P l.length env' st' :=
  forLoop_go (J := .lst m) P (fun i env st hp _ => by simp [Iter.get, hl i env st hp]) (fun env st hp => by simp [Iter.stop, hl _ env st hp]) ht l.length 0 env st (by omega) h
theorem forLoop_itm {l : List MV} {turn : MV → Env → Store → Out Ctl} (P : Nat → Env → Store → Prop) (ht : ∀ i x env st, l[i]? = some x → P i env st → ∃ env' st', turn x env st = .ok (.next env') st' ∧ P (i + 1) env' st')
    {env : Env} {st : Store} (h : P 0 env st) : ∃ env' st', forLoop (.itm l) turn l.length 0 env st = .ok (.next env') st' ∧ P l.length env' st' :=
  forLoop_go (J := .itm l) P (fun i env st hp _ => rfl) (fun env st hp => by simp [Iter.stop]) ht l.length 0 env st (by omega) h
/-! ### comprehensions -/
theorem lcLoop_go {J : Iter} {D : Nat} {turn : MV → Store → Out (Option MV)} {l : List MV} (P : Nat → List MV → Store → Prop) (hg : ∀ i acc st, P i acc st → i < l.length → J.get st i = l[i]?) (hs : ∀ acc st, P l.length acc st → J.stop st l.length = true)
    (ht : ∀ i x acc st, l[i]? = some x → st[D]? = some (.lst acc) → P i acc st → ∃ r st', turn x st = .ok r st' ∧ st'[D]? = some (.lst acc) ∧ acc.length < sizeMax ∧ (match r with
      | none => P (i + 1) acc st'
      | some y => P (i + 1) (acc ++ [y]) (st'.set D (.lst (acc ++ [y]))))) :
    ∀ (n i : Nat) (acc : List MV) (st : Store), i + n = l.length → st[D]? = some (.lst acc) → P i acc st → ∃ acc' st', lcLoop J D turn n i st = .ok (.loc D) st' ∧ st'[D]? = some (.lst acc') ∧ P l.length acc' st'
  | 0, i, acc, st, hn, hD, h => by
    have e : i = l.length := by omega
    subst e
    exact ⟨acc, st, by simp [lcLoop, hs acc st h], hD, h⟩
  | n + 1, i, acc, st, hn, hD, h => by
    have hi : i < l.length := by omega
    have hx : l[i]? = some l[i] := List.getElem?_eq_getElem hi
    obtain ⟨r, st1, h1, h2, h3, h4⟩ := ht i l[i] acc st hx hD h
    cases r with
    | none =>
      obtain ⟨acc2, st2, g1, g2, g3⟩ := lcLoop_go P hg hs ht n (i + 1) acc st1 (by omega) h2 h4
      exact ⟨acc2, st2, by simp only [lcLoop, hg i acc st h hi, hx, h1, Out.bind_ok, g1], g2, g3⟩
    | some y =>
      obtain ⟨acc2, st2, g1, g2, g3⟩ := lcLoop_go P hg hs ht n (i + 1) (acc ++ [y]) (st1.set D (.lst (acc ++ [y]))) (by omega) (get_set h2) h4
      exact ⟨acc2, st2, by simp only [lcLoop, hg i acc st h hi, hx, h1, Out.bind_ok, appendTo, h2, if_pos h3, g1], g2, g3⟩
theorem lcRun_go {J : Iter} {turn : MV → Store → Out (Option MV)} {l : List MV} {st : Store} (hc : J.cnt st = l.length) (P : Nat → List MV → Store → Prop) (hg : ∀ i acc s, P i acc s → i < l.length → J.get s i = l[i]?) (hs : ∀ acc s, P l.length acc s → J.stop s l.length = true)
    (ht : ∀ i x acc s, l[i]? = some x → s[st.length]? = some (.lst acc) → P i acc s → ∃ r s', turn x s = .ok r s' ∧ s'[st.length]? = some (.lst acc) ∧ acc.length < sizeMax ∧ (match r with
      | none => P (i + 1) acc s'
      | some y => P (i + 1) (acc ++ [y]) (s'.set st.length (.lst (acc ++ [y]))))) (h : P 0 [] (st ++ [.lst []])) :
    ∃ acc' st', lcRun J turn st = .ok (.loc st.length) st' ∧ st'[st.length]? = some (.lst acc') ∧ P l.length acc' st' := by
  unfold lcRun
  rw [hc]
  exact lcLoop_go P hg hs ht l.length 0 [] _ (by omega) get_new h
/-! ### numbers -/
theorem log2_lt {n k : Nat} (h : n < 2 ^ k) (hk : 0 < k) : n.log2 < k := by
  by_cases h0 : n = 0
  · subst h0
    simpa using hk
  · exact (Nat.log2_lt h0).mpr h
theorem mulOk {i j : Int} {a b : Nat} (hi : i.natAbs < 2 ^ a) (hj : j.natAbs < 2 ^ b) (ha : 0 < a) (hb : 0 < b) (h : a + b ≤ 1000000) : i.natAbs.log2 + j.natAbs.log2 < 1000000 := by
  have h1 := log2_lt hi ha
  have h2 := log2_lt hj hb
  omega
end Mini
end

section
set_option linter.all false
set_option maxRecDepth 100000
/-! MiniRun: one step of the evaluator as an equation; what is still to come stands as a named constant, so simp never goes under it. -/
namespace Mini
/-- what stands at a place (a name, so that simp's list lemmas leave it alone) -/
def cel (st : Store) (n : Nat) : Option Cell := st[n]?
theorem cel_set (st : Store) (n : Nat) (c : Cell) (h : n < st.length) : cel (st.set n c) n = some c := List.getElem?_set_self h
theorem cel_set_ne (st : Store) (n m : Nat) (c : Cell) (h : n ≠ m) : cel (st.set n c) m = cel st m := List.getElem?_set_ne h
theorem cel_old (st t : Store) (n : Nat) (h : n < st.length) : cel (st ++ t) n = cel st n := List.getElem?_append_left h
@[simp] theorem cel_new (st t : Store) : cel (st ++ t) st.length = t[0]? := by
  unfold cel
  rw [List.getElem?_append_right (Nat.le_refl _), Nat.sub_self]
@[simp] theorem cel_new1 (st t : Store) (i : Nat) : cel (st ++ t) (st.length + i) = t[i]? := by
  unfold cel
  rw [List.getElem?_append_right (by omega)]
  congr 1
  omega
theorem cel_lt {st : Store} {n : Nat} {c : Cell} (h : cel st n = some c) : n < st.length := (List.getElem?_eq_some_iff.mp h).1
theorem cel_keep {w : List Nat} {st st' : Store} (k : Keep w st st') {n : Nat} {c : Cell} (h : cel st n = some c) (hn : n ∉ w) : cel st' n = some c := k.get n c hn h
def vr : Option (Option MV) → Store → Out MV
  | some (some v), st => .ok v st
  | _, _ => .bad
@[simp] theorem vr_some (v : MV) (st : Store) : vr (some (some v)) st = .ok v st := nr rfl
@[simp] theorem r_var (C : Cx) (i : Nat) (env : Env) (st : Store) : evE C (.var i) env st = vr env[i]? st := by
  simp only [evE]
  rcases env[i]? with _ | _ | v <;> rfl
@[simp] theorem r_con (C : Cx) (v : MV) (env : Env) (st : Store) : evE C (.con v) env st = .ok v st := by simp only [evE]
def kO1 (C : Cx) (o : Op2) (b : ME) (env : Env) (x : MV) (s1 : Store) : Out MV := (evE C b env s1).bind fun y s2 => op2 o x y s2
def kO2 (o : Op2) (x y : MV) (s : Store) : Out MV := op2 o x y s
@[simp] theorem r_op2 (C : Cx) (o : Op2) (a b : ME) (env : Env) (st : Store) : evE C (.op2 o a b) env st = (evE C a env st).bind (kO1 C o b env) := by simp only [evE]; rfl
@[simp] theorem q_o1 (C : Cx) (o : Op2) (b : ME) (env : Env) (x : MV) (s : Store) : kO1 C o b env x s = (evE C b env s).bind (kO2 o x) := nr rfl
@[simp] theorem q_o2 (o : Op2) (x y : MV) (s : Store) : kO2 o x y s = op2 o x y s := nr rfl
def kAnd (C : Cx) (b : ME) (env : Env) (x : MV) (s1 : Store) : Out MV := (asB x s1).bind fun c s2 => if c then evE C b env s2 else .ok (.bl false) s2
def kOr (C : Cx) (b : ME) (env : Env) (x : MV) (s1 : Store) : Out MV := (asB x s1).bind fun c s2 => if c then .ok (.bl true) s2 else evE C b env s2
@[simp] theorem r_and (C : Cx) (a b : ME) (env : Env) (st : Store) : evE C (.and a b) env st = (evE C a env st).bind (kAnd C b env) := by simp only [evE]; rfl
@[simp] theorem r_or (C : Cx) (a b : ME) (env : Env) (st : Store) : evE C (.or a b) env st = (evE C a env st).bind (kOr C b env) := by simp only [evE]; rfl
@[simp] theorem q_and (C : Cx) (b : ME) (env : Env) (c : Bool) (s : Store) : kAnd C b env (.bl c) s = if c = true then evE C b env s else .ok (.bl false) s := nr rfl
@[simp] theorem q_or (C : Cx) (b : ME) (env : Env) (c : Bool) (s : Store) : kOr C b env (.bl c) s = if c = true then .ok (.bl true) s else evE C b env s := nr rfl
def kNot (x : MV) (s1 : Store) : Out MV := (truth s1 x).bind fun b s2 => .ok (.bl (!b)) s2
def kNot2 (b : Bool) (s2 : Store) : Out MV := .ok (.bl (!b)) s2
@[simp] theorem r_nt (C : Cx) (a : ME) (env : Env) (st : Store) : evE C (.nt a) env st = (evE C a env st).bind kNot := by simp only [evE]; rfl
@[simp] theorem q_not (x : MV) (s : Store) : kNot x s = (truth s x).bind kNot2 := nr rfl
@[simp] theorem q_not2 (b : Bool) (s : Store) : kNot2 b s = .ok (.bl (!b)) s := nr rfl
def kC1 (C : Cx) (o p : Op2) (b c : ME) (env : Env) (x : MV) (s1 : Store) : Out MV := (evE C b env s1).bind fun y s2 => (op2 o x y s2).bind fun z s3 => (asB z s3).bind fun k s4 =>
      if k then (evE C c env s4).bind fun w s5 => op2 p y w s5 else .ok (.bl false) s4
def kC2 (C : Cx) (o p : Op2) (c : ME) (env : Env) (x y : MV) (s2 : Store) : Out MV := (op2 o x y s2).bind fun z s3 => (asB z s3).bind fun k s4 =>
      if k then (evE C c env s4).bind fun w s5 => op2 p y w s5 else .ok (.bl false) s4
def kC3 (C : Cx) (p : Op2) (c : ME) (env : Env) (y z : MV) (s3 : Store) : Out MV := (asB z s3).bind fun k s4 =>
      if k then (evE C c env s4).bind fun w s5 => op2 p y w s5 else .ok (.bl false) s4
@[simp] theorem r_chain (C : Cx) (o p : Op2) (a b c : ME) (env : Env) (st : Store) : evE C (.chain o p a b c) env st = (evE C a env st).bind (kC1 C o p b c env) := by simp only [evE]; rfl
@[simp] theorem q_c1 (C : Cx) (o p : Op2) (b c : ME) (env : Env) (x : MV) (s : Store) : kC1 C o p b c env x s = (evE C b env s).bind (kC2 C o p c env x) := nr rfl
@[simp] theorem q_c2 (C : Cx) (o p : Op2) (c : ME) (env : Env) (x y : MV) (s : Store) : kC2 C o p c env x y s = (op2 o x y s).bind (kC3 C p c env y) := nr rfl
@[simp] theorem q_c3 (C : Cx) (p : Op2) (c : ME) (env : Env) (y : MV) (b : Bool) (s : Store) : kC3 C p c env y (.bl b) s = if b = true then (evE C c env s).bind (kO2 p y) else .ok (.bl false) s := nr rfl
def kIte (C : Cx) (a b : ME) (env : Env) (k : Bool) (s1 : Store) : Out MV := if k then evE C a env s1 else evE C b env s1
@[simp] theorem r_ite (C : Cx) (c a b : ME) (env : Env) (st : Store) : evE C (.ite c a b) env st = (tst C c env st).bind (kIte C a b env) := by simp only [evE]; rfl
@[simp] theorem q_ite (C : Cx) (a b : ME) (env : Env) (k : Bool) (s : Store) : kIte C a b env k s = if k = true then evE C a env s else evE C b env s := nr rfl
def kTup (vs : List MV) (s1 : Store) : Out MV := if vs.length ≤ 1000 then .ok (.tup vs) s1 else .bad
@[simp] theorem r_tup (C : Cx) (l : List ME) (env : Env) (st : Store) : evE C (.tup l) env st = (evEs C l env st).bind kTup := by simp only [evE]; rfl
@[simp] theorem q_tup (vs : List MV) (s : Store) : kTup vs s = if vs.length ≤ 1000 then .ok (.tup vs) s else .bad := nr rfl
def kLst (vs : List MV) (s1 : Store) : Out MV := newL vs s1
@[simp] theorem r_lst (C : Cx) (l : List ME) (env : Env) (st : Store) : evE C (.lst l) env st = (evEs C l env st).bind kLst := by simp only [evE]; rfl
@[simp] theorem q_lst (vs : List MV) (s : Store) : kLst vs s = newL vs s := nr rfl
theorem newL_ok {l : List MV} {st : Store} (h : l.length ≤ 16000000) : newL l st = .ok (.loc st.length) (st ++ [.lst l]) := if_pos h
def kCall (C : Cx) (f : Nat) (vs : List MV) (s1 : Store) : Out MV := C.call f vs s1
@[simp] theorem r_call (C : Cx) (f : Nat) (l : List ME) (env : Env) (st : Store) : evE C (.call f l) env st = (evEs C l env st).bind (kCall C f) := by simp only [evE]; rfl
@[simp] theorem q_call (C : Cx) (f : Nat) (vs : List MV) (s : Store) : kCall C f vs s = C.call f vs s := nr rfl
def kPrim (C : Cx) (p : Prim) (vs : List MV) (s1 : Store) : Out MV := prim C p vs s1
@[simp] theorem r_prim (C : Cx) (p : Prim) (l : List ME) (env : Env) (st : Store) : evE C (.prim p l) env st = (evEs C l env st).bind (kPrim C p) := by simp only [evE]; rfl
@[simp] theorem q_prim (C : Cx) (p : Prim) (vs : List MV) (s : Store) : kPrim C p vs s = prim C p vs s := nr rfl
def kM1 (C : Cx) (m : Mth) (l : List ME) (env : Env) (x : MV) (s1 : Store) : Out MV := if recv m x s1 then (evEs C l env s1).bind fun vs s2 => meth m x vs s2 else .bad
def kM2 (m : Mth) (x : MV) (vs : List MV) (s2 : Store) : Out MV := meth m x vs s2
@[simp] theorem r_meth (C : Cx) (m : Mth) (o : ME) (l : List ME) (env : Env) (st : Store) : evE C (.meth m o l) env st = (evE C o env st).bind (kM1 C m l env) := by simp only [evE]; rfl
@[simp] theorem q_m1 (C : Cx) (m : Mth) (l : List ME) (env : Env) (x : MV) (s : Store) : kM1 C m l env x s = if recv m x s = true then (evEs C l env s).bind (kM2 m x) else .bad := nr rfl
def isLC : Option Cell → Bool
  | some (.lst _) => true
  | some (.ro _) => true
  | _ => false
@[simp] theorem isLC_lst (l : List MV) : isLC (some (.lst l)) = true := nr rfl
theorem isLC_eq (s : Store) (n : Nat) : (getL s n).isSome = isLC (cel s n) := by
  unfold getL cel
  rcases s[n]? with _ | l | l | ⟨c, fs⟩ | l | l <;> rfl
@[simp] theorem rc_append (n : Nat) (s : Store) : recv .append (.loc n) s = isLC (cel s n) := isLC_eq s n
@[simp] theorem rc_pop (n : Nat) (s : Store) : recv .pop (.loc n) s = isLC (cel s n) := isLC_eq s n
@[simp] theorem rc_insert (n : Nat) (s : Store) : recv .insert (.loc n) s = isLC (cel s n) := isLC_eq s n
@[simp] theorem rc_bit (i : Int) (s : Store) : recv .bitLen (.int i) s = true := nr rfl
@[simp] theorem q_m2 (m : Mth) (x : MV) (vs : List MV) (s : Store) : kM2 m x vs s = meth m x vs s := nr rfl
@[simp] theorem m_append (n : Nat) (y : MV) (s : Store) : meth .append (.loc n) [y] s = appendTo n y s := nr rfl
def appV : Option Cell → Nat → MV → Store → Out MV
  | some (.lst l), n, y, st => if l.length < sizeMax then .ok .non (st.set n (.lst (l ++ [y]))) else .bad
  | _, _, _, _ => .bad
@[simp] theorem appendTo_eq (n : Nat) (y : MV) (s : Store) : appendTo n y s = appV (cel s n) n y s := by
  unfold appendTo cel
  rcases s[n]? with _ | _ | _ <;> rfl
theorem appV_ok {l : List MV} {n : Nat} {y : MV} {st : Store} (h : l.length < 16000000) : appV (some (.lst l)) n y st = .ok .non (st.set n (.lst (l ++ [y]))) := if_pos h
def kRev (x : MV) (s1 : Store) : Out MV := match x with
      | .loc n => match getL s1 n with
        | some l => .ok (.loc s1.length) (s1 ++ [.lst l.reverse])
        | none => .bad
      | _ => .bad
@[simp] theorem r_rev (C : Cx) (a : ME) (env : Env) (st : Store) : evE C (.rev a) env st = (evE C a env st).bind kRev := by simp only [evE]; rfl
theorem q_rev {n : Nat} {s : Store} {l : List MV} (h : getL s n = some l) : kRev (.loc n) s = .ok (.loc s.length) (s ++ [.lst l.reverse]) := by simp [kRev, h]
def kSl1 (C : Cx) (fl fh : Bool) (lo hi : ME) (env : Env) (x : MV) (s1 : Store) : Out MV := (evE C lo env s1).bind fun y s2 => (evE C hi env s2).bind fun z s3 => slice fl fh x y z s3
def kSl2 (C : Cx) (fl fh : Bool) (hi : ME) (env : Env) (x y : MV) (s2 : Store) : Out MV := (evE C hi env s2).bind fun z s3 => slice fl fh x y z s3
def kSl3 (fl fh : Bool) (x y z : MV) (s3 : Store) : Out MV := slice fl fh x y z s3
@[simp] theorem r_sl (C : Cx) (fl fh : Bool) (a lo hi : ME) (env : Env) (st : Store) : evE C (.sl fl fh a lo hi) env st = (evE C a env st).bind (kSl1 C fl fh lo hi env) := by simp only [evE]; rfl
@[simp] theorem q_sl1 (C : Cx) (fl fh : Bool) (lo hi : ME) (env : Env) (x : MV) (s : Store) : kSl1 C fl fh lo hi env x s = (evE C lo env s).bind (kSl2 C fl fh hi env x) := nr rfl
@[simp] theorem q_sl2 (C : Cx) (fl fh : Bool) (hi : ME) (env : Env) (x y : MV) (s : Store) : kSl2 C fl fh hi env x y s = (evE C hi env s).bind (kSl3 fl fh x y) := nr rfl
@[simp] theorem q_sl3 (fl fh : Bool) (x y z : MV) (s : Store) : kSl3 fl fh x y z s = slice fl fh x y z s := nr rfl
/-! ### comprehensions -/
def kLcE (y : MV) (s4 : Store) : Out (Option MV) := .ok (some y) s4
def kLcT (C : Cx) (e : ME) (env2 : Env) (b : Bool) (s3 : Store) : Out (Option MV) := if b then (evE C e env2 s3).bind kLcE else .ok none s3
def lcTurn (C : Cx) (g : MG) (cs : List ME) (e : ME) (env : Env) (v : MV) (s : Store) : Out (Option MV) := match setG g v env with
      | none => .bad
      | some env2 => (tsts C cs env2 s).bind (kLcT C e env2)
def kLcS (C : Cx) (g : MG) (cs : List ME) (e : ME) (env : Env) (x : MV) (s1 : Store) : Out MV := (mkSeq x s1).bind fun J s2 => lcRun J (lcTurn C g cs e env) s2
def kLcJ (C : Cx) (g : MG) (cs : List ME) (e : ME) (env : Env) (J : Iter) (s2 : Store) : Out MV := lcRun J (lcTurn C g cs e env) s2
def kLcR (C : Cx) (g : MG) (cs : List ME) (e : ME) (env : Env) (x : MV) (s1 : Store) : Out MV := (mkR1 x s1).bind fun J s2 => lcRun J (lcTurn C g cs e env) s2
def kLcQ (C : Cx) (b : ME) (g : MG) (cs : List ME) (e : ME) (env : Env) (x : MV) (s0 : Store) : Out MV := (evE C b env s0).bind fun y s1 => (mkR2 x y s1).bind fun J s2 => lcRun J (lcTurn C g cs e env) s2
def kLcQ2 (C : Cx) (g : MG) (cs : List ME) (e : ME) (env : Env) (x y : MV) (s1 : Store) : Out MV := (mkR2 x y s1).bind fun J s2 => lcRun J (lcTurn C g cs e env) s2
theorem lcTurn_ok {C : Cx} {g : MG} {cs : List ME} {e : ME} {env env2 : Env} {v : MV} {s : Store} (h : setG g v env = some env2) : lcTurn C g cs e env v s = (tsts C cs env2 s).bind (kLcT C e env2) := by simp only [lcTurn, h]
@[simp] theorem lcTurn_nm (C : Cx) (i : Nat) (cs : List ME) (e : ME) (env : Env) (v : MV) (s : Store) : lcTurn C (.nm i) cs e env v s = (tsts C cs (env.set i (some v)) s).bind (kLcT C e (env.set i (some v))) := nr rfl
@[simp] theorem r_lcS (C : Cx) (g : MG) (it : ME) (cs : List ME) (e : ME) (env : Env) (st : Store) : evE C (.lcS g it cs e) env st = (evE C it env st).bind (kLcS C g cs e env) := by simp only [evE]; rfl
@[simp] theorem r_lcR1 (C : Cx) (g : MG) (n : ME) (cs : List ME) (e : ME) (env : Env) (st : Store) : evE C (.lcR1 g n cs e) env st = (evE C n env st).bind (kLcR C g cs e env) := by simp only [evE]; rfl
@[simp] theorem r_lcR2 (C : Cx) (g : MG) (a b : ME) (cs : List ME) (e : ME) (env : Env) (st : Store) : evE C (.lcR2 g a b cs e) env st = (evE C a env st).bind (kLcQ C b g cs e env) := by simp only [evE]; rfl
@[simp] theorem q_lcS (C : Cx) (g : MG) (cs : List ME) (e : ME) (env : Env) (x : MV) (s : Store) : kLcS C g cs e env x s = (mkSeq x s).bind (kLcJ C g cs e env) := nr rfl
@[simp] theorem q_lcR (C : Cx) (g : MG) (cs : List ME) (e : ME) (env : Env) (x : MV) (s : Store) : kLcR C g cs e env x s = (mkR1 x s).bind (kLcJ C g cs e env) := nr rfl
@[simp] theorem q_lcQ (C : Cx) (b : ME) (g : MG) (cs : List ME) (e : ME) (env : Env) (x : MV) (s : Store) : kLcQ C b g cs e env x s = (evE C b env s).bind (kLcQ2 C g cs e env x) := nr rfl
@[simp] theorem q_lcQ2 (C : Cx) (g : MG) (cs : List ME) (e : ME) (env : Env) (x y : MV) (s : Store) : kLcQ2 C g cs e env x y s = (mkR2 x y s).bind (kLcJ C g cs e env) := nr rfl
@[simp] theorem q_lcJ (C : Cx) (g : MG) (cs : List ME) (e : ME) (env : Env) (J : Iter) (s : Store) : kLcJ C g cs e env J s = lcRun J (lcTurn C g cs e env) s := nr rfl
@[simp] theorem q_lcT (C : Cx) (e : ME) (env : Env) (b : Bool) (s : Store) : kLcT C e env b s = if b = true then (evE C e env s).bind kLcE else .ok none s := nr rfl
@[simp] theorem q_lcE (y : MV) (s : Store) : kLcE y s = .ok (some y) s := nr rfl
/-! ### lists of expressions -/
def kEs (C : Cx) (l : List ME) (env : Env) (x : MV) (s1 : Store) : Out (List MV) := (evEs C l env s1).bind fun xs s2 => .ok (x :: xs) s2
def kEs2 (x : MV) (xs : List MV) (s2 : Store) : Out (List MV) := .ok (x :: xs) s2
@[simp] theorem r_es0 (C : Cx) (env : Env) (st : Store) : evEs C [] env st = .ok [] st := by simp only [evEs]
@[simp] theorem r_es (C : Cx) (a : ME) (l : List ME) (env : Env) (st : Store) : evEs C (a :: l) env st = (evE C a env st).bind (kEs C l env) := by simp only [evEs]; rfl
@[simp] theorem q_es (C : Cx) (l : List ME) (env : Env) (x : MV) (s : Store) : kEs C l env x s = (evEs C l env s).bind (kEs2 x) := nr rfl
@[simp] theorem q_es2 (x : MV) (xs : List MV) (s : Store) : kEs2 x xs s = .ok (x :: xs) s := nr rfl
/-! ### tests -/
def kTAnd (C : Cx) (b : ME) (env : Env) (k : Bool) (s1 : Store) : Out Bool := if k then tst C b env s1 else .ok false s1
def kTOr (C : Cx) (b : ME) (env : Env) (k : Bool) (s1 : Store) : Out Bool := if k then .ok true s1 else tst C b env s1
def kTNot (k : Bool) (s1 : Store) : Out Bool := .ok (!k) s1
def kTr (z : MV) (s3 : Store) : Out Bool := truth s3 z
@[simp] theorem t_and (C : Cx) (a b : ME) (env : Env) (st : Store) : tst C (.and a b) env st = (tst C a env st).bind (kTAnd C b env) := by simp only [tst]; rfl
@[simp] theorem t_or (C : Cx) (a b : ME) (env : Env) (st : Store) : tst C (.or a b) env st = (tst C a env st).bind (kTOr C b env) := by simp only [tst]; rfl
@[simp] theorem t_nt (C : Cx) (a : ME) (env : Env) (st : Store) : tst C (.nt a) env st = (tst C a env st).bind kTNot := by simp only [tst]; rfl
@[simp] theorem q_tand (C : Cx) (b : ME) (env : Env) (k : Bool) (s : Store) : kTAnd C b env k s = if k = true then tst C b env s else .ok false s := nr rfl
@[simp] theorem q_tor (C : Cx) (b : ME) (env : Env) (k : Bool) (s : Store) : kTOr C b env k s = if k = true then .ok true s else tst C b env s := nr rfl
@[simp] theorem q_tnot (k : Bool) (s : Store) : kTNot k s = .ok (!k) s := nr rfl
@[simp] theorem q_tr (z : MV) (s : Store) : kTr z s = truth s z := nr rfl
def kTO1 (C : Cx) (o : Op2) (b : ME) (env : Env) (x : MV) (s1 : Store) : Out Bool := (evE C b env s1).bind fun y s2 => (op2 o x y s2).bind fun z s3 => truth s3 z
def kTO2 (o : Op2) (x y : MV) (s2 : Store) : Out Bool := (op2 o x y s2).bind fun z s3 => truth s3 z
@[simp] theorem t_op2 (C : Cx) (o : Op2) (a b : ME) (env : Env) (st : Store) : tst C (.op2 o a b) env st = (evE C a env st).bind (kTO1 C o b env) := by simp only [tst]; rfl
@[simp] theorem q_to1 (C : Cx) (o : Op2) (b : ME) (env : Env) (x : MV) (s : Store) : kTO1 C o b env x s = (evE C b env s).bind (kTO2 o x) := nr rfl
@[simp] theorem q_to2 (o : Op2) (x y : MV) (s : Store) : kTO2 o x y s = (op2 o x y s).bind kTr := nr rfl
def kTC1 (C : Cx) (o p : Op2) (b c : ME) (env : Env) (x : MV) (s1 : Store) : Out Bool := (evE C b env s1).bind fun y s2 => (op2 o x y s2).bind fun z s3 => (asB z s3).bind fun k s4 =>
      if k then (evE C c env s4).bind fun w s5 => (op2 p y w s5).bind fun u s6 => asB u s6 else .ok false s4
def kTC2 (C : Cx) (o p : Op2) (c : ME) (env : Env) (x y : MV) (s2 : Store) : Out Bool := (op2 o x y s2).bind fun z s3 => (asB z s3).bind fun k s4 =>
      if k then (evE C c env s4).bind fun w s5 => (op2 p y w s5).bind fun u s6 => asB u s6 else .ok false s4
def kAsB (z : MV) (s : Store) : Out Bool := asB z s
def kTC3 (C : Cx) (p : Op2) (c : ME) (env : Env) (y z : MV) (s3 : Store) : Out Bool := (asB z s3).bind fun k s4 =>
      if k then (evE C c env s4).bind fun w s5 => (op2 p y w s5).bind fun u s6 => asB u s6 else .ok false s4
def kTC4 (p : Op2) (y w : MV) (s5 : Store) : Out Bool := (op2 p y w s5).bind fun u s6 => asB u s6
@[simp] theorem t_chain (C : Cx) (o p : Op2) (a b c : ME) (env : Env) (st : Store) : tst C (.chain o p a b c) env st = (evE C a env st).bind (kTC1 C o p b c env) := by simp only [tst]; rfl
@[simp] theorem q_tc1 (C : Cx) (o p : Op2) (b c : ME) (env : Env) (x : MV) (s : Store) : kTC1 C o p b c env x s = (evE C b env s).bind (kTC2 C o p c env x) := nr rfl
@[simp] theorem q_tc2 (C : Cx) (o p : Op2) (c : ME) (env : Env) (x y : MV) (s : Store) : kTC2 C o p c env x y s = (op2 o x y s).bind (kTC3 C p c env y) := nr rfl
@[simp] theorem q_tc3 (C : Cx) (p : Op2) (c : ME) (env : Env) (y : MV) (b : Bool) (s : Store) : kTC3 C p c env y (.bl b) s = if b = true then (evE C c env s).bind (kTC4 p y) else .ok false s := nr rfl
@[simp] theorem q_tc4 (p : Op2) (y w : MV) (s : Store) : kTC4 p y w s = (op2 p y w s).bind kAsB := nr rfl
@[simp] theorem q_asb (b : Bool) (s : Store) : kAsB (.bl b) s = .ok b s := nr rfl
def vt : Option (Option MV) → Store → Out Bool
  | some (some v), st => truth st v
  | _, _ => .bad
@[simp] theorem vt_some (v : MV) (st : Store) : vt (some (some v)) st = truth st v := nr rfl
@[simp] theorem t_var (C : Cx) (i : Nat) (env : Env) (st : Store) : tst C (.var i) env st = vt env[i]? st := by
  simp only [tst]
  rcases env[i]? with _ | _ | v <;> rfl
def kTCall (C : Cx) (f : Nat) (vs : List MV) (s1 : Store) : Out Bool := (C.call f vs s1).bind fun z s2 => truth s2 z
@[simp] theorem t_call (C : Cx) (f : Nat) (l : List ME) (env : Env) (st : Store) : tst C (.call f l) env st = (evEs C l env st).bind (kTCall C f) := by simp only [tst]; rfl
@[simp] theorem q_tcall (C : Cx) (f : Nat) (vs : List MV) (s : Store) : kTCall C f vs s = (C.call f vs s).bind kTr := nr rfl
def kTPrim (C : Cx) (p : Prim) (vs : List MV) (s1 : Store) : Out Bool := (prim C p vs s1).bind fun z s2 => truth s2 z
@[simp] theorem t_prim (C : Cx) (p : Prim) (l : List ME) (env : Env) (st : Store) : tst C (.prim p l) env st = (evEs C l env st).bind (kTPrim C p) := by simp only [tst]; rfl
@[simp] theorem q_tprim (C : Cx) (p : Prim) (vs : List MV) (s : Store) : kTPrim C p vs s = (prim C p vs s).bind kTr := nr rfl
@[simp] theorem t_s0 (C : Cx) (env : Env) (st : Store) : tsts C [] env st = .ok true st := by simp only [tsts]
@[simp] theorem t_s1 (C : Cx) (c : ME) (env : Env) (st : Store) : tsts C [c] env st = tst C c env st := by simp only [tsts]
/-! ### values -/
@[simp] theorem u_non (st : Store) : truth st .non = .ok false st := nr rfl
@[simp] theorem u_bl (b : Bool) (st : Store) : truth st (.bl b) = .ok b st := nr rfl
@[simp] theorem u_int (i : Int) (st : Store) : truth st (.int i) = .ok (i != 0) st := nr rfl
@[simp] theorem u_tup (l : List MV) (st : Store) : truth st (.tup l) = .ok (!l.isEmpty) st := nr rfl
def trL : Option (List MV) → Store → Out Bool
  | some l, st => .ok (!l.isEmpty) st
  | none, _ => .bad
@[simp] theorem trL_some (l : List MV) (st : Store) : trL (some l) st = .ok (!l.isEmpty) st := nr rfl
@[simp] theorem u_loc (n : Nat) (st : Store) : truth st (.loc n) = trL (getL st n) st := by
  simp only [truth]
  rcases getL st n with _ | _ <;> rfl
@[simp] theorem o_add (i j : Int) (st : Store) : op2 .add (.int i) (.int j) st = .ok (.int (i + j)) st := nr rfl
@[simp] theorem o_sub (i j : Int) (st : Store) : op2 .sub (.int i) (.int j) st = .ok (.int (i - j)) st := nr rfl
theorem o_mul {i j : Int} {st : Store} (h : i.natAbs.log2 + j.natAbs.log2 < 1000000) : op2 .mul (.int i) (.int j) st = .ok (.int (i * j)) st := by simp only [op2, opMul, if_pos h]
theorem o_fdiv {i j : Int} {st : Store} (h : 0 < j) (h2 : j.natAbs.log2 < 9000) : op2 .fdiv (.int i) (.int j) st = .ok (.int (i / j)) st := by simp only [op2, if_pos (And.intro h h2)]
theorem o_mod {i j : Int} {st : Store} (h : 0 < j) : op2 .mod (.int i) (.int j) st = .ok (.int (i % j)) st := by simp only [op2, if_pos h]
theorem o_pow {i j : Int} {st : Store} (h : 0 ≤ j ∧ j ≤ 1000000 ∧ i.natAbs < 2 ^ 64) : op2 .pow (.int i) (.int j) st = .ok (.int (i ^ j.toNat)) st := by simp only [op2, if_pos h]
@[simp] theorem o_lt (i j : Int) (st : Store) : op2 .lt (.int i) (.int j) st = .ok (.bl (decide (i < j))) st := nr rfl
@[simp] theorem o_le (i j : Int) (st : Store) : op2 .le (.int i) (.int j) st = .ok (.bl (decide (i ≤ j))) st := nr rfl
@[simp] theorem o_gt (i j : Int) (st : Store) : op2 .gt (.int i) (.int j) st = .ok (.bl (decide (j < i))) st := nr rfl
@[simp] theorem o_ge (i j : Int) (st : Store) : op2 .ge (.int i) (.int j) st = .ok (.bl (decide (j ≤ i))) st := nr rfl
@[simp] theorem o_eqI (i j : Int) (st : Store) : op2 .eq (.int i) (.int j) st = .ok (.bl (decide (i = j))) st := nr rfl
@[simp] theorem o_neI (i j : Int) (st : Store) : op2 .ne (.int i) (.int j) st = .ok (.bl (!decide (i = j))) st := nr rfl
@[simp] theorem o_eqB (i j : Bool) (st : Store) : op2 .eq (.bl i) (.bl j) st = .ok (.bl (decide (i = j))) st := nr rfl
@[simp] theorem o_neB (i j : Bool) (st : Store) : op2 .ne (.bl i) (.bl j) st = .ok (.bl (!decide (i = j))) st := nr rfl
@[simp] theorem o_eqS (i j : Txt) (st : Store) : op2 .eq (.str i) (.str j) st = .ok (.bl (decide (i = j))) st := nr rfl
@[simp] theorem o_neS (i j : Txt) (st : Store) : op2 .ne (.str i) (.str j) st = .ok (.bl (!decide (i = j))) st := nr rfl
@[simp] theorem o_eqNI (j : Int) (st : Store) : op2 .eq .non (.int j) st = .ok (.bl false) st := nr rfl
@[simp] theorem o_eqIN (j : Int) (st : Store) : op2 .eq (.int j) .non st = .ok (.bl false) st := nr rfl
@[simp] theorem o_eqNN (st : Store) : op2 .eq .non .non st = .ok (.bl true) st := nr rfl
@[simp] theorem o_isNN (st : Store) : op2 .isN .non .non st = .ok (.bl true) st := nr rfl
@[simp] theorem o_isNI (i : Int) (st : Store) : op2 .isN (.int i) .non st = .ok (.bl false) st := nr rfl
@[simp] theorem o_isNL (n : Nat) (st : Store) : op2 .isN (.loc n) .non st = .ok (.bl false) st := nr rfl
@[simp] theorem o_isNT (l : List MV) (st : Store) : op2 .isN (.tup l) .non st = .ok (.bl false) st := nr rfl
@[simp] theorem o_noNN (st : Store) : op2 .notN .non .non st = .ok (.bl false) st := nr rfl
@[simp] theorem o_noNI (i : Int) (st : Store) : op2 .notN (.int i) .non st = .ok (.bl true) st := nr rfl
@[simp] theorem o_noNL (n : Nat) (st : Store) : op2 .notN (.loc n) .non st = .ok (.bl true) st := nr rfl
@[simp] theorem o_noNT (l : List MV) (st : Store) : op2 .notN (.tup l) .non st = .ok (.bl true) st := nr rfl
/-- a value that was looked up -/
def vo : Option MV → Store → Out MV
  | some v, st => .ok v st
  | none, _ => .bad
@[simp] theorem vo_some (v : MV) (st : Store) : vo (some v) st = .ok v st := nr rfl
def ixV : Option Cell → Int → Store → Out MV
  | some (.lst l), i, st => vo (atI l i) st
  | some (.ro l), i, st => vo (atI l i) st
  | some (.dct l), i, st => vo (valD l i) st
  | some (.rdc l), i, st => vo (valD l i) st
  | _, _, _ => .bad
@[simp] theorem ixV_lst (l : List MV) (i : Int) (st : Store) : ixV (some (.lst l)) i st = vo (atI l i) st := nr rfl
@[simp] theorem ixV_ro (l : List MV) (i : Int) (st : Store) : ixV (some (.ro l)) i st = vo (atI l i) st := nr rfl
@[simp] theorem ixV_dct (l : List (Int × MV)) (i : Int) (st : Store) : ixV (some (.dct l)) i st = vo (valD l i) st := nr rfl
@[simp] theorem ixV_rdc (l : List (Int × MV)) (i : Int) (st : Store) : ixV (some (.rdc l)) i st = vo (valD l i) st := nr rfl
@[simp] theorem o_ixL (n : Nat) (i : Int) (st : Store) : op2 .ix (.loc n) (.int i) st = ixV (cel st n) i st := by
  unfold cel
  simp only [op2, opIx, getL, getD]
  rcases st[n]? with _ | l | l | ⟨c, fs⟩ | l | l
  · rfl
  · simp only [ixV]
    rcases atI l i with _ | _ <;> rfl
  · simp only [ixV]
    rcases atI l i with _ | _ <;> rfl
  · rfl
  · simp only [ixV, Option.bind_some]
    rcases valD l i with _ | _ <;> rfl
  · simp only [ixV, Option.bind_some]
    rcases valD l i with _ | _ <;> rfl
@[simp] theorem o_ixT (l : List MV) (i : Int) (st : Store) : op2 .ix (.tup l) (.int i) st = vo (atI l i) st := by
  simp only [op2, opIx]
  rcases atI l i with _ | _ <;> rfl
@[simp] theorem o_addT (a b : List MV) (st : Store) : op2 .add (.tup a) (.tup b) st = if a.length + b.length ≤ 1000 then .ok (.tup (a ++ b)) st else .bad := nr rfl
theorem o_addL {n m : Nat} {a b : List MV} {st : Store} (h : cel st n = some (.lst a)) (g : cel st m = some (.lst b)) : op2 .add (.loc n) (.loc m) st = newL (a ++ b) st := by
  unfold cel at h g
  simp only [op2, opAdd, h, g]
@[simp] theorem atI_nat (l : List MV) (n : Nat) : atI l (n : Int) = l[n]? := by
  unfold atI ixN
  rw [if_pos (by omega)]
  by_cases h : n < l.length
  · rw [if_pos (by omega)]
    simp
  · rw [if_neg (by omega)]
    simp only [Option.bind_none]
    exact (List.getElem?_eq_none (by omega)).symm
@[simp] theorem atI_lit (l : List MV) (n : Nat) : atI l (no_index (OfNat.ofNat n : Int)) = l[(OfNat.ofNat n : Nat)]? := atI_nat l n
theorem atI_pos {l : List MV} {i : Int} (h : 0 ≤ i) : atI l i = l[i.toNat]? := by
  obtain ⟨n, rfl⟩ := Int.eq_ofNat_of_zero_le h
  rw [atI_nat]
  rfl
theorem atI_neg {l : List MV} {i : Int} (h : i < 0) (h2 : -(l.length : Int) ≤ i) : atI l i = l[(i + l.length).toNat]? := by
  unfold atI ixN
  rw [if_neg (by omega), if_pos h2]
  rfl
@[simp] theorem o_powL (b n : Nat) (st : Store) (h : n ≤ 1000000) (hb : b < 18446744073709551616) : op2 .pow (.int (no_index (OfNat.ofNat b : Int))) (.int (no_index (OfNat.ofNat n : Int))) st = .ok (.int ((OfNat.ofNat b : Int) ^ (OfNat.ofNat n : Nat))) st := by
  have h2 : (n : Int) ≤ 1000000 := by
    have : n ≤ 1000000 := h
    omega
  have h3 : (b : Int).natAbs < 2 ^ 64 := by
    have : b < 18446744073709551616 := hb
    omega
  exact o_pow (i := (b : Int)) (j := (n : Int)) ⟨by omega, h2, h3⟩
@[simp] theorem o_modL (i : Int) (n : Nat) (st : Store) (h : 0 < n) : op2 .mod (.int i) (.int (no_index (OfNat.ofNat n : Int))) st = .ok (.int (i % (OfNat.ofNat n : Int))) st := by
  have : 0 < n := h
  exact o_mod (j := (n : Int)) (by omega)
@[simp] theorem o_fdivL (i : Int) (n : Nat) (st : Store) (h : 0 < n) (hb : n < 18446744073709551616) : op2 .fdiv (.int i) (.int (no_index (OfNat.ofNat n : Int))) st = .ok (.int (i / (OfNat.ofNat n : Int))) st := by
  have h1 : 0 < n := h
  have h2 : n < 18446744073709551616 := hb
  exact o_fdiv (j := (n : Int)) (by omega) (Nat.lt_of_lt_of_le (log2_lt (k := 64) (by omega) (by decide)) (by decide))
def adV : Option Cell → Option Cell → Store → Out MV
  | some (.lst a), some (.lst b), st => newL (a ++ b) st
  | _, _, _ => .bad
@[simp] theorem adV_some (a b : List MV) (st : Store) : adV (some (.lst a)) (some (.lst b)) st = newL (a ++ b) st := nr rfl
@[simp] theorem o_addLL (n m : Nat) (st : Store) : op2 .add (.loc n) (.loc m) st = adV (cel st n) (cel st m) st := by
  unfold cel
  simp only [op2, opAdd]
  rcases st[n]? with _ | _ | _ <;> rcases st[m]? with _ | _ | _ <;> rfl
/-! ### builtins -/
@[simp] theorem p_neg (C : Cx) (i : Int) (st : Store) : prim C .neg [.int i] st = .ok (.int (-i)) st := nr rfl
@[simp] theorem p_abs (C : Cx) (i : Int) (st : Store) : prim C .abs [.int i] st = .ok (.int (if i < 0 then -i else i)) st := nr rfl
@[simp] theorem p_int (C : Cx) (i : Int) (st : Store) : prim C .int [.int i] st = .ok (.int i) st := nr rfl
@[simp] theorem p_intB (C : Cx) (b : Bool) (st : Store) : prim C .int [.bl b] st = .ok (.int (if b then 1 else 0)) st := nr rfl
@[simp] theorem p_max2 (C : Cx) (i j : Int) (st : Store) : prim C .max2 [.int i, .int j] st = .ok (.int (if j > i then j else i)) st := nr rfl
@[simp] theorem p_min2 (C : Cx) (i j : Int) (st : Store) : prim C .min2 [.int i, .int j] st = .ok (.int (if j < i then j else i)) st := nr rfl
def lenV : Option Cell → Store → Out MV
  | some (.lst l), st => .ok (.int l.length) st
  | some (.ro l), st => .ok (.int l.length) st
  | some (.dct l), st => .ok (.int l.length) st
  | some (.rdc l), st => .ok (.int l.length) st
  | _, _ => .bad
@[simp] theorem lenV_lst (l : List MV) (st : Store) : lenV (some (.lst l)) st = .ok (.int l.length) st := nr rfl
@[simp] theorem lenV_ro (l : List MV) (st : Store) : lenV (some (.ro l)) st = .ok (.int l.length) st := nr rfl
@[simp] theorem lenV_dct (l : List (Int × MV)) (st : Store) : lenV (some (.dct l)) st = .ok (.int l.length) st := nr rfl
@[simp] theorem lenV_rdc (l : List (Int × MV)) (st : Store) : lenV (some (.rdc l)) st = .ok (.int l.length) st := nr rfl
@[simp] theorem p_len (C : Cx) (n : Nat) (st : Store) : prim C .len [.loc n] st = lenV (cel st n) st := by
  unfold cel
  simp only [prim, getL, getD]
  rcases st[n]? with _ | l | l | ⟨c, fs⟩ | l | l <;> rfl
@[simp] theorem p_lenT (C : Cx) (l : List MV) (st : Store) : prim C .len [.tup l] st = .ok (.int l.length) st := nr rfl
def lstV : Option (List MV) → Store → Out MV
  | some l, st => newL l st
  | none, _ => .bad
@[simp] theorem lstV_some (l : List MV) (st : Store) : lstV (some l) st = newL l st := nr rfl
@[simp] theorem p_list (C : Cx) (n : Nat) (st : Store) : prim C .list [.loc n] st = lstV (getL st n) st := by
  simp only [prim]
  rcases getL st n with _ | _ <;> rfl
@[simp] theorem p_listT (C : Cx) (l : List MV) (st : Store) : prim C .list [.tup l] st = newL l st := nr rfl
@[simp] theorem p_isIntI (C : Cx) (i : Int) (st : Store) : prim C .isInt [.int i] st = .ok (.bl true) st := nr rfl
@[simp] theorem p_isIntB (C : Cx) (i : Bool) (st : Store) : prim C .isInt [.bl i] st = .ok (.bl true) st := nr rfl
@[simp] theorem p_isIntN (C : Cx) (st : Store) : prim C .isInt [.non] st = .ok (.bl false) st := nr rfl
@[simp] theorem p_isIntT (C : Cx) (l : List MV) (st : Store) : prim C .isInt [.tup l] st = .ok (.bl false) st := nr rfl
@[simp] theorem p_isBoolI (C : Cx) (i : Int) (st : Store) : prim C .isBool [.int i] st = .ok (.bl false) st := nr rfl
@[simp] theorem p_isBoolB (C : Cx) (i : Bool) (st : Store) : prim C .isBool [.bl i] st = .ok (.bl true) st := nr rfl
@[simp] theorem p_isBoolN (C : Cx) (st : Store) : prim C .isBool [.non] st = .ok (.bl false) st := nr rfl
@[simp] theorem p_isTupleT (C : Cx) (l : List MV) (st : Store) : prim C .isTuple [.tup l] st = .ok (.bl true) st := nr rfl
@[simp] theorem p_isTupleI (C : Cx) (i : Int) (st : Store) : prim C .isTuple [.int i] st = .ok (.bl false) st := nr rfl
@[simp] theorem p_isTupleN (C : Cx) (st : Store) : prim C .isTuple [.non] st = .ok (.bl false) st := nr rfl
@[simp] theorem p_isListI (C : Cx) (i : Int) (st : Store) : prim C .isList [.int i] st = .ok (.bl false) st := nr rfl
@[simp] theorem p_isListT (C : Cx) (l : List MV) (st : Store) : prim C .isList [.tup l] st = .ok (.bl false) st := nr rfl
@[simp] theorem p_isListN (C : Cx) (st : Store) : prim C .isList [.non] st = .ok (.bl false) st := nr rfl
theorem p_isListL {C : Cx} {n : Nat} {l : List MV} {st : Store} (h : getL st n = some l) : prim C .isList [.loc n] st = .ok (.bl true) st := by simp only [prim, h]
theorem p_repr {C : Cx} {n : Nat} {l : List MV} {st : Store} (h : getL st n = some l) (h2 : l.all okInt = true) (h3 : l.length ≤ 1000) : prim C .repr [.loc n] st = .ok (.str (C.repr (.lst l))) st := by simp only [prim, h, if_pos (And.intro h2 h3)]
def isV (b : Bool) : Option (List MV) → Store → Out MV
  | some _, st => .ok (.bl b) st
  | none, _ => .bad
@[simp] theorem isV_some (b : Bool) (l : List MV) (st : Store) : isV b (some l) st = .ok (.bl b) st := nr rfl
@[simp] theorem p_isTupleLoc (C : Cx) (n : Nat) (st : Store) : prim C .isTuple [.loc n] st = isV false (getL st n) st := by
  simp only [prim]
  rcases getL st n with _ | _ <;> rfl
@[simp] theorem p_isIntLoc (C : Cx) (n : Nat) (st : Store) : prim C .isInt [.loc n] st = isV false (getL st n) st := by
  simp only [prim]
  rcases getL st n with _ | _ <;> rfl
@[simp] theorem p_isBoolLoc (C : Cx) (n : Nat) (st : Store) : prim C .isBool [.loc n] st = isV false (getL st n) st := by
  simp only [prim]
  rcases getL st n with _ | _ <;> rfl
@[simp] theorem p_isListLoc (C : Cx) (n : Nat) (st : Store) : prim C .isList [.loc n] st = isV true (getL st n) st := by
  simp only [prim]
  rcases getL st n with _ | _ <;> rfl
@[simp] theorem p_isTupleB (C : Cx) (b : Bool) (st : Store) : prim C .isTuple [.bl b] st = .ok (.bl false) st := nr rfl
@[simp] theorem p_isListB (C : Cx) (b : Bool) (st : Store) : prim C .isList [.bl b] st = .ok (.bl false) st := nr rfl
@[simp] theorem p_isStrI (C : Cx) (i : Int) (st : Store) : prim C .isStr [.int i] st = .ok (.bl false) st := nr rfl
@[simp] theorem p_isStrB (C : Cx) (i : Bool) (st : Store) : prim C .isStr [.bl i] st = .ok (.bl false) st := nr rfl
@[simp] theorem p_isStrN (C : Cx) (st : Store) : prim C .isStr [.non] st = .ok (.bl false) st := nr rfl
@[simp] theorem p_isStrT (C : Cx) (l : List MV) (st : Store) : prim C .isStr [.tup l] st = .ok (.bl false) st := nr rfl
@[simp] theorem p_isBoolT (C : Cx) (l : List MV) (st : Store) : prim C .isBool [.tup l] st = .ok (.bl false) st := nr rfl
@[simp] theorem p_isStrLoc (C : Cx) (n : Nat) (st : Store) : prim C .isStr [.loc n] st = isV false (getL st n) st := by
  simp only [prim]
  rcases getL st n with _ | _ <;> rfl
@[simp] theorem o_isNB (b : Bool) (st : Store) : op2 .isN (.bl b) .non st = .ok (.bl false) st := nr rfl
@[simp] theorem o_noNB (b : Bool) (st : Store) : op2 .notN (.bl b) .non st = .ok (.bl true) st := nr rfl
def celL : Option Cell → Option (List MV)
  | some (.lst l) => some l
  | some (.ro l) => some l
  | _ => none
@[simp] theorem celL_lst (l : List MV) : celL (some (.lst l)) = some l := nr rfl
@[simp] theorem celL_ro (l : List MV) : celL (some (.ro l)) = some l := nr rfl
@[simp] theorem getL_eq (st : Store) (n : Nat) : getL st n = celL (cel st n) := by
  unfold getL cel
  rcases st[n]? with _ | _ | _ <;> rfl
def rvV : Option (List MV) → Store → Out MV
  | some l, s => .ok (.loc s.length) (s ++ [.lst l.reverse])
  | none, _ => .bad
@[simp] theorem rvV_some (l : List MV) (s : Store) : rvV (some l) s = .ok (.loc s.length) (s ++ [.lst l.reverse]) := nr rfl
@[simp] theorem q_revL (n : Nat) (s : Store) : kRev (.loc n) s = rvV (celL (cel s n)) s := by
  rw [← getL_eq]
  simp only [kRev]
  rcases getL s n with _ | _ <;> rfl
@[simp] theorem atI_m1 (l : List MV) : atI l (-1) = l.getLast? := by
  cases l with
  | nil => rfl
  | cons a r =>
    rw [atI_neg (by omega) (by simp; omega), List.getLast?_eq_getElem?]
    congr 1
    simp
    omega
/-! ### iterables -/
@[simp] theorem i_seq (C : Cx) (e : ME) (env : Env) (st : Store) : evI C (.seq e) env st = (evE C e env st).bind mkSeq := nr rfl
@[simp] theorem i_rng1 (C : Cx) (e : ME) (env : Env) (st : Store) : evI C (.rng1 e) env st = (evE C e env st).bind mkR1 := nr rfl
@[simp] theorem i_enm (C : Cx) (e : ME) (env : Env) (st : Store) : evI C (.enm e) env st = (evE C e env st).bind mkEn := nr rfl
def kR2 (C : Cx) (b : ME) (env : Env) (x : MV) (s1 : Store) : Out Iter := (evE C b env s1).bind fun y s2 => mkR2 x y s2
def kR2b (x y : MV) (s : Store) : Out Iter := mkR2 x y s
def kDn (C : Cx) (b : ME) (env : Env) (x : MV) (s1 : Store) : Out Iter := (evE C b env s1).bind fun y s2 => mkDn x y s2
def kDnb (x y : MV) (s : Store) : Out Iter := mkDn x y s
@[simp] theorem i_rng2 (C : Cx) (a b : ME) (env : Env) (st : Store) : evI C (.rng2 a b) env st = (evE C a env st).bind (kR2 C b env) := nr rfl
@[simp] theorem q_r2 (C : Cx) (b : ME) (env : Env) (x : MV) (s : Store) : kR2 C b env x s = (evE C b env s).bind (kR2b x) := nr rfl
@[simp] theorem q_r2b (x y : MV) (s : Store) : kR2b x y s = mkR2 x y s := nr rfl
@[simp] theorem i_down (C : Cx) (a b : ME) (env : Env) (st : Store) : evI C (.down a b) env st = (evE C a env st).bind (kDn C b env) := nr rfl
@[simp] theorem q_dn (C : Cx) (b : ME) (env : Env) (x : MV) (s : Store) : kDn C b env x s = (evE C b env s).bind (kDnb x) := nr rfl
@[simp] theorem q_dnb (x y : MV) (s : Store) : kDnb x y s = mkDn x y s := nr rfl
def sqV : Option (List MV) → Nat → Store → Out Iter
  | some _, n, st => .ok (.lst n) st
  | none, _, _ => .bad
@[simp] theorem sqV_some (l : List MV) (n : Nat) (st : Store) : sqV (some l) n st = .ok (.lst n) st := nr rfl
@[simp] theorem mk_loc (n : Nat) (st : Store) : mkSeq (.loc n) st = sqV (getL st n) n st := by
  simp only [mkSeq]
  rcases getL st n with _ | _ <;> rfl
@[simp] theorem mk_tup (l : List MV) (st : Store) : mkSeq (.tup l) st = .ok (.itm l) st := nr rfl
def enV : Option (List MV) → Nat → Store → Out Iter
  | some _, n, st => .ok (.enm n) st
  | none, _, _ => .bad
@[simp] theorem enV_some (l : List MV) (n : Nat) (st : Store) : enV (some l) n st = .ok (.enm n) st := nr rfl
@[simp] theorem mk_en (n : Nat) (st : Store) : mkEn (.loc n) st = enV (getL st n) n st := by
  simp only [mkEn]
  rcases getL st n with _ | _ <;> rfl
theorem mk_r1 {j : Int} {st : Store} (h : -(2 ^ 62) ≤ j) (h2 : j < 2 ^ 62) : mkR1 (.int j) st = .ok (.rng 0 1 j.toNat) st := by
  have : rngOk j = true := by simp only [rngOk, Bool.and_eq_true, decide_eq_true_eq]; exact ⟨h, h2⟩
  simp only [mkR1, this, if_true]
theorem mk_r2 {i j : Int} {st : Store} (g : -(2 ^ 62) ≤ i) (g2 : i < 2 ^ 62) (h : -(2 ^ 62) ≤ j) (h2 : j < 2 ^ 62) : mkR2 (.int i) (.int j) st = .ok (.rng i 1 (j - i).toNat) st := by
  have a : rngOk j = true := by simp only [rngOk, Bool.and_eq_true, decide_eq_true_eq]; exact ⟨h, h2⟩
  have b : rngOk i = true := by simp only [rngOk, Bool.and_eq_true, decide_eq_true_eq]; exact ⟨g, g2⟩
  simp only [mkR2, a, b, Bool.and_self, if_true]
theorem mk_dn {i j : Int} {st : Store} (g : -(2 ^ 62) ≤ i) (g2 : i < 2 ^ 62) (h : -(2 ^ 62) ≤ j) (h2 : j < 2 ^ 62) : mkDn (.int i) (.int j) st = .ok (.rng i (-1) (i - j).toNat) st := by
  have a : rngOk j = true := by simp only [rngOk, Bool.and_eq_true, decide_eq_true_eq]; exact ⟨h, h2⟩
  have b : rngOk i = true := by simp only [rngOk, Bool.and_eq_true, decide_eq_true_eq]; exact ⟨g, g2⟩
  simp only [mkDn, a, b, Bool.and_self, if_true]
@[simp] theorem cnt_rng (lo c : Int) (n : Nat) (st : Store) : Iter.cnt (.rng lo c n) st = n := nr rfl
@[simp] theorem cnt_itm (l : List MV) (st : Store) : Iter.cnt (.itm l) st = l.length := nr rfl
def lenN : Option (List MV) → Nat
  | some l => l.length
  | none => 0
@[simp] theorem lenN_some (l : List MV) : lenN (some l) = l.length := nr rfl
@[simp] theorem cnt_lst (n : Nat) (st : Store) : Iter.cnt (.lst n) st = lenN (getL st n) := by
  simp only [Iter.cnt]
  rcases getL st n with _ | _ <;> rfl
@[simp] theorem cnt_enm (n : Nat) (st : Store) : Iter.cnt (.enm n) st = lenN (getL st n) := by
  simp only [Iter.cnt]
  rcases getL st n with _ | _ <;> rfl
/-! ### statements -/
def kAsg (g : MG) (env : Env) (x : MV) (s1 : Store) : Out Ctl := match setG g x env with
      | some env2 => .ok (.next env2) s1
      | none => .bad
@[simp] theorem s_asg (C : Cx) (g : MG) (e : ME) (env : Env) (st : Store) : evS C (.asg g e) env st = (evE C e env st).bind (kAsg g env) := by simp only [evS]; rfl
@[simp] theorem q_asg (i : Nat) (env : Env) (x : MV) (s : Store) : kAsg (.nm i) env x s = .ok (.next (env.set i (some x))) s := nr rfl
def tpE (is : List Nat) (l : List MV) (env : Env) : Env := (is.zip l).foldl (fun e p => e.set p.1 (some p.2)) env
@[simp] theorem q_asg2 (a b : Nat) (x y : MV) (env : Env) (s : Store) : kAsg (.tp [a, b]) env (.tup [x, y]) s = .ok (.next ((env.set a (some x)).set b (some y))) s := nr rfl
@[simp] theorem q_asg3 (a b c : Nat) (x y z : MV) (env : Env) (s : Store) : kAsg (.tp [a, b, c]) env (.tup [x, y, z]) s = .ok (.next (((env.set a (some x)).set b (some y)).set c (some z))) s := nr rfl
@[simp] theorem sl_tup1 (x y z : MV) (s : Store) : slice true false (.tup [x, y, z]) (.int 1) .non s = .ok (.tup [y, z]) s := nr rfl
theorem q_asgT {is : List Nat} {l : List MV} {env : Env} {s : Store} (h : is.length = l.length) : kAsg (.tp is) env (.tup l) s = .ok (.next (tpE is l env)) s := by
  simp only [Out.bind_ok, kAsg, setG, if_pos h]
  rfl
def kSet1 (C : Cx) (o i : ME) (env : Env) (v : MV) (s1 : Store) : Out Ctl := (evE C o env s1).bind fun x s2 => (evE C i env s2).bind fun k s3 => (setAt x k v s3).bind fun _ s4 => .ok (.next env) s4
def kSet2 (C : Cx) (i : ME) (env : Env) (v x : MV) (s2 : Store) : Out Ctl := (evE C i env s2).bind fun k s3 => (setAt x k v s3).bind fun _ s4 => .ok (.next env) s4
def kSet3 (env : Env) (v x k : MV) (s3 : Store) : Out Ctl := (setAt x k v s3).bind fun _ s4 => .ok (.next env) s4
def kSet4 (env : Env) (u : Unit) (s4 : Store) : Out Ctl := .ok (.next env) s4
@[simp] theorem s_set (C : Cx) (o i e : ME) (env : Env) (st : Store) : evS C (.setIx o i e) env st = (evE C e env st).bind (kSet1 C o i env) := by simp only [evS]; rfl
@[simp] theorem q_set1 (C : Cx) (o i : ME) (env : Env) (v : MV) (s : Store) : kSet1 C o i env v s = (evE C o env s).bind (kSet2 C i env v) := nr rfl
@[simp] theorem q_set2 (C : Cx) (i : ME) (env : Env) (v x : MV) (s : Store) : kSet2 C i env v x s = (evE C i env s).bind (kSet3 env v x) := nr rfl
@[simp] theorem q_set3 (env : Env) (v x k : MV) (s : Store) : kSet3 env v x k s = (setAt x k v s).bind (kSet4 env) := nr rfl
@[simp] theorem q_set4 (env : Env) (u : Unit) (s : Store) : kSet4 env u s = .ok (.next env) s := nr rfl
def stJ : Option Nat → List MV → Nat → MV → Store → Out Unit
  | some j, l, n, v, st => .ok () (st.set n (.lst (l.set j v)))
  | none, _, _, _, _ => .bad
@[simp] theorem stJ_some (j : Nat) (l : List MV) (n : Nat) (v : MV) (st : Store) : stJ (some j) l n v st = .ok () (st.set n (.lst (l.set j v))) := nr rfl
def stV : Option Cell → Nat → Int → MV → Store → Out Unit
  | some (.lst l), n, k, v, st => stJ (ixN l.length k) l n v st
  | some (.dct l), n, k, v, st => if l.length < sizeMax then .ok () (st.set n (.dct (putD k v l))) else .bad
  | _, _, _, _, _ => .bad
@[simp] theorem stV_some (l : List MV) (n : Nat) (k : Int) (v : MV) (st : Store) : stV (some (.lst l)) n k v st = stJ (ixN l.length k) l n v st := nr rfl
theorem stV_dct (l : List (Int × MV)) (n : Nat) (k : Int) (v : MV) (st : Store) (h : l.length < 16000000) : stV (some (.dct l)) n k v st = .ok () (st.set n (.dct (putD k v l))) := if_pos h
@[simp] theorem setAt_eq (n : Nat) (k : Int) (v : MV) (st : Store) : setAt (.loc n) (.int k) v st = stV (cel st n) n k v st := by
  unfold cel
  simp only [setAt]
  rcases st[n]? with _ | l | l | ⟨c, fs⟩ | l | l
  · rfl
  · simp only [stV]
    rcases ixN l.length k with _ | _ <;> rfl
  · rfl
  · rfl
  · rfl
  · rfl
theorem ixN_nat {m n : Nat} (h : n < m) : ixN m (n : Int) = some n := by
  unfold ixN
  rw [if_pos (by omega), if_pos (by omega)]
  simp
theorem ixN_lit {m n : Nat} (h : n < m) : ixN m (no_index (OfNat.ofNat n : Int)) = some (OfNat.ofNat n : Nat) := ixN_nat h
theorem ixN_pos {m : Nat} {i : Int} (h0 : 0 ≤ i) (h : i < m) : ixN m i = some i.toNat := by
  unfold ixN
  rw [if_pos h0, if_pos h]
def kAug1 (o : Op2) (i : Nat) (env : Env) (x y : MV) (s1 : Store) : Out Ctl := (augI o x y s1).bind fun z s2 => .ok (.next (env.set i (some z))) s2
def kAug2 (i : Nat) (env : Env) (z : MV) (s2 : Store) : Out Ctl := .ok (.next (env.set i (some z))) s2
def agV (C : Cx) (o : Op2) (i : Nat) (e : ME) (env : Env) (st : Store) : Option (Option MV) → Out Ctl
  | some (some x) => (evE C e env st).bind (kAug1 o i env x)
  | _ => .bad
@[simp] theorem agV_some (C : Cx) (o : Op2) (i : Nat) (e : ME) (env : Env) (st : Store) (x : MV) : agV C o i e env st (some (some x)) = (evE C e env st).bind (kAug1 o i env x) := nr rfl
@[simp] theorem s_aug (C : Cx) (o : Op2) (i : Nat) (e : ME) (env : Env) (st : Store) : evS C (.aug o i e) env st = agV C o i e env st env[i]? := by
  simp only [evS]
  rcases env[i]? with _ | _ | v <;> rfl
@[simp] theorem q_augA (i : Nat) (env : Env) (x y : Int) (s : Store) : kAug1 .add i env (.int x) (.int y) s = .ok (.next (env.set i (some (.int (x + y))))) s := nr rfl
@[simp] theorem q_augS (i : Nat) (env : Env) (x y : Int) (s : Store) : kAug1 .sub i env (.int x) (.int y) s = .ok (.next (env.set i (some (.int (x - y))))) s := nr rfl
def kExp (env : Env) (x : MV) (s1 : Store) : Out Ctl := .ok (.next env) s1
@[simp] theorem s_exp (C : Cx) (e : ME) (env : Env) (st : Store) : evS C (.expr e) env st = (evE C e env st).bind (kExp env) := by simp only [evS]; rfl
@[simp] theorem q_exp (env : Env) (x : MV) (s : Store) : kExp env x s = .ok (.next env) s := nr rfl
def kRet (x : MV) (s1 : Store) : Out Ctl := .ok (.ret x) s1
@[simp] theorem s_ret (C : Cx) (e : ME) (env : Env) (st : Store) : evS C (.ret e) env st = (evE C e env st).bind kRet := by simp only [evS]; rfl
@[simp] theorem q_ret (x : MV) (s : Store) : kRet x s = .ok (.ret x) s := nr rfl
@[simp] theorem s_retN (C : Cx) (env : Env) (st : Store) : evS C .retN env st = .ok (.ret .non) st := by simp only [evS]
@[simp] theorem s_pass (C : Cx) (env : Env) (st : Store) : evS C .pass env st = .ok (.next env) st := by simp only [evS]
@[simp] theorem s_brk (C : Cx) (env : Env) (st : Store) : evS C .brk env st = .ok (.brk env) st := by simp only [evS]
@[simp] theorem s_cont (C : Cx) (env : Env) (st : Store) : evS C .cont env st = .ok (.cont env) st := by simp only [evS]
@[simp] theorem s_kill (C : Cx) (ks : List Nat) (env : Env) (st : Store) : evS C (.kill ks) env st = .ok (.next (killAll ks env)) st := by simp only [evS]
@[simp] theorem kill0 (env : Env) : killAll [] env = env := nr rfl
@[simp] theorem kill1 (k : Nat) (ks : List Nat) (env : Env) : killAll (k :: ks) env = killAll ks (env.set k none) := nr rfl
def kIf (C : Cx) (a b : List MS) (env : Env) (k : Bool) (s1 : Store) : Out Ctl := if k then evSs C a env s1 else evSs C b env s1
@[simp] theorem s_ite (C : Cx) (c : ME) (a b : List MS) (env : Env) (st : Store) : evS C (.ite c a b) env st = (tst C c env st).bind (kIf C a b env) := by simp only [evS]; rfl
@[simp] theorem q_if (C : Cx) (a b : List MS) (env : Env) (k : Bool) (s : Store) : kIf C a b env k s = if k = true then evSs C a env s else evSs C b env s := nr rfl
def kKill (ks : List Nat) (c : Ctl) (s2 : Store) : Out Ctl := .ok (c.mapEnv (killAll ks)) s2
def lpTurn (C : Cx) (g : MG) (body : List MS) (ks : List Nat) (x : MV) (e : Env) (s : Store) : Out Ctl := match setG g x e with
      | none => .bad
      | some e2 => (evSs C body e2 s).bind (kKill ks)
def kLoop (C : Cx) (g : MG) (body : List MS) (ks : List Nat) (env : Env) (J : Iter) (s1 : Store) : Out Ctl := forLoop J (lpTurn C g body ks) (J.cnt s1) 0 (killAll ks env) s1
@[simp] theorem s_loop (C : Cx) (g : MG) (it : MI) (body : List MS) (ks : List Nat) (env : Env) (st : Store) : evS C (.loop g it body ks) env st = (evI C it env st).bind (kLoop C g body ks env) := by simp only [evS]; rfl
@[simp] theorem q_loop (C : Cx) (g : MG) (body : List MS) (ks : List Nat) (env : Env) (J : Iter) (s : Store) : kLoop C g body ks env J s = forLoop J (lpTurn C g body ks) (J.cnt s) 0 (killAll ks env) s := nr rfl
@[simp] theorem lpTurn_nm (C : Cx) (i : Nat) (body : List MS) (ks : List Nat) (x : MV) (e : Env) (s : Store) : lpTurn C (.nm i) body ks x e s = (evSs C body (e.set i (some x)) s).bind (kKill ks) := nr rfl
@[simp] theorem lpTurn_tp2 (C : Cx) (a b : Nat) (body : List MS) (ks : List Nat) (x y : MV) (e : Env) (s : Store) : lpTurn C (.tp [a, b]) body ks (.tup [x, y]) e s = (evSs C body ((e.set a (some x)).set b (some y)) s).bind (kKill ks) := nr rfl
theorem lpTurn_tp {C : Cx} {is : List Nat} {body : List MS} {ks : List Nat} {l : List MV} {e : Env} {s : Store} (h : is.length = l.length) : lpTurn C (.tp is) body ks (.tup l) e s = (evSs C body (tpE is l e) s).bind (kKill ks) := by
  simp only [lpTurn, setG, if_pos h]
  rfl
@[simp] theorem q_killN (ks : List Nat) (e : Env) (s : Store) : kKill ks (.next e) s = .ok (.next (killAll ks e)) s := nr rfl
@[simp] theorem q_killC (ks : List Nat) (e : Env) (s : Store) : kKill ks (.cont e) s = .ok (.cont (killAll ks e)) s := nr rfl
@[simp] theorem q_killB (ks : List Nat) (e : Env) (s : Store) : kKill ks (.brk e) s = .ok (.brk (killAll ks e)) s := nr rfl
@[simp] theorem q_killR (ks : List Nat) (v : MV) (s : Store) : kKill ks (.ret v) s = .ok (.ret v) s := nr rfl
def whTurn (C : Cx) (body : List MS) (ks : List Nat) (e : Env) (s : Store) : Out Ctl := (evSs C body e s).bind (kKill ks)
@[simp] theorem s_whl (C : Cx) (c : ME) (body : List MS) (ks : List Nat) (env : Env) (st : Store) : evS C (.whl c body ks) env st = whlLoop (tst C c) (whTurn C body ks) C.wf (killAll ks env) st := by simp only [evS]; rfl
def kSs (C : Cx) (l : List MS) (c : Ctl) (s1 : Store) : Out Ctl := match c with
      | .next e => evSs C l e s1
      | .ret v => .ok (.ret v) s1
      | .brk e => .ok (.brk e) s1
      | .cont e => .ok (.cont e) s1
@[simp] theorem s_s0 (C : Cx) (env : Env) (st : Store) : evSs C [] env st = .ok (.next env) st := by simp only [evSs]
@[simp] theorem s_ss (C : Cx) (a : MS) (l : List MS) (env : Env) (st : Store) : evSs C (a :: l) env st = (evS C a env st).bind (kSs C l) := by simp only [evSs]; rfl
@[simp] theorem q_ssN (C : Cx) (l : List MS) (e : Env) (s : Store) : kSs C l (.next e) s = evSs C l e s := nr rfl
@[simp] theorem q_ssR (C : Cx) (l : List MS) (v : MV) (s : Store) : kSs C l (.ret v) s = .ok (.ret v) s := nr rfl
@[simp] theorem q_ssB (C : Cx) (l : List MS) (e : Env) (s : Store) : kSs C l (.brk e) s = .ok (.brk e) s := nr rfl
@[simp] theorem q_ssC (C : Cx) (l : List MS) (e : Env) (s : Store) : kSs C l (.cont e) s = .ok (.cont e) s := nr rfl
@[simp] theorem q_endR (v : MV) (s : Store) : endC (.ret v) s = .ok v s := nr rfl
@[simp] theorem q_endN (e : Env) (s : Store) : endC (.next e) s = .ok .non s := nr rfl
/-- both ways of a test -/
theorem bind_ite {α β : Type} {c : Prop} [Decidable c] (a b : Out α) (f : α → Store → Out β) : (if c then a else b).bind f = if c then a.bind f else b.bind f := by
  by_cases h : c
  · rw [if_pos h, if_pos h]
  · rw [if_neg h, if_neg h]
end Mini
namespace Mini
/-! ### ends of a run -/
def OkQ {α : Type} (Q : α → Store → Prop) : Out α → Prop
  | .ok a s => Q a s
  | _ => False
@[simp] theorem okQ_ok {α : Type} (Q : α → Store → Prop) (a : α) (s : Store) : OkQ Q (.ok a s) = Q a s := nr rfl
theorem OkQ.ex {α β : Type} (f : β → α) {P : β → Store → Prop} {o : Out α} (h : ∀ Q : α → Store → Prop, (∀ b s, P b s → Q (f b) s) → OkQ Q o) : ∃ b s, o = .ok (f b) s ∧ P b s := by
  have := h (fun a s => ∃ b, a = f b ∧ P b s) (fun b s hb => ⟨b, rfl, hb⟩)
  match o, this with
  | .ok a s, ⟨b, hb, hp⟩ => exact ⟨b, s, by rw [hb], hp⟩
theorem Keep.setNew {w : List Nat} {st s : Store} (h : Keep w st s) {n : Nat} (hn : st.length ≤ n) {c : Cell} : Keep w st (s.set n c) := ⟨by simpa using h.len, fun m d hm e => by
  have : m < st.length := (List.getElem?_eq_some_iff.mp e).1
  rw [List.getElem?_set_ne (by omega)]
  exact h.get m d hm e⟩
theorem Keep.app {w : List Nat} {st s t : Store} (h : Keep w st s) : Keep w st (s ++ t) := h.trans Keep.new.weak
/-- a comprehension without a filter: one value each turn -/
theorem lcRun_map {J : Iter} {turn : MV → Store → Out (Option MV)} {l : List MV} {st : Store} (hc : J.cnt st = l.length) (hl : l.length ≤ sizeMax) (I : Nat → Store → Prop) (R : MV → MV → Prop)
    (hg : ∀ i s, I i s → i < l.length → J.get s i = l[i]?) (hs : ∀ s, I l.length s → J.stop s l.length = true) (h0 : I 0 (st ++ [.lst []])) (hset : ∀ i s c, I i s → I i (s.set st.length c))
    (ht : ∀ i x s, l[i]? = some x → I i s → ∃ y s', turn x s = .ok (some y) s' ∧ R x y ∧ (∀ c, cel s st.length = some c → cel s' st.length = some c) ∧ I (i + 1) s') :
    ∃ acc st', lcRun J turn st = .ok (.loc st.length) st' ∧ cel st' st.length = some (.lst acc) ∧ acc.length = l.length ∧ (∀ y, y ∈ acc → ∃ x, x ∈ l ∧ R x y) ∧ I l.length st' := by
  obtain ⟨acc, st', h1, h2, h3, h4, h5⟩ := lcRun_go hc (fun i acc s => I i s ∧ acc.length = i ∧ ∀ y, y ∈ acc → ∃ x, x ∈ l ∧ R x y) (fun i acc s h hi => hg i s h.1 hi) (fun acc s h => hs s h.1) (fun i x acc s hx hD h => by
    obtain ⟨y, s', g1, g2, g3, g4⟩ := ht i x s hx h.1
    have hi : i < l.length := (List.getElem?_eq_some_iff.mp hx).1
    refine ⟨some y, s', g1, g3 _ hD, by rw [h.2.1]; omega, hset _ _ _ g4, by simp [h.2.1], ?_⟩
    intro z hz
    rcases List.mem_append.mp hz with hz | hz
    · exact h.2.2 z hz
    · exact ⟨x, List.mem_of_getElem? hx, by rw [List.mem_singleton.mp hz]; exact g2⟩) ⟨h0, rfl, by simp⟩
  exact ⟨acc, st', h1, h2, h4, h5, h3⟩
theorem cel_app_old {st t : Store} {n : Nat} {c : Cell} (h : cel st n = some c) : cel (st ++ t) n = some c := by rw [cel_old _ _ _ (cel_lt h)]; exact h
theorem get_rng {lo c : Int} {n i : Nat} {s : Store} (h : i < n) : Iter.get (.rng lo c n) s i = (rngL lo c n)[i]? := by
  simp [Iter.get, rngL, h]
theorem rngL_len {lo c : Int} {n : Nat} : (rngL lo c n).length = n := by simp [rngL]
theorem rngL_get {lo c : Int} {n i : Nat} {x : MV} (h : (rngL lo c n)[i]? = some x) : i < n ∧ x = .int (lo + (i : Int) * c) := by
  have hi : i < n := by rw [← rngL_len (lo := lo) (c := c) (n := n)]; exact (List.getElem?_eq_some_iff.mp h).1
  refine ⟨hi, ?_⟩
  simp [rngL, hi] at h
  exact h.symm
theorem stop_rng {lo c : Int} {n : Nat} {s : Store} : Iter.stop (.rng lo c n) s n = true := by simp [Iter.stop]
theorem get_lst {m i : Nat} {s : Store} {l : List MV} (h : celL (cel s m) = some l) : Iter.get (.lst m) s i = l[i]? := by
  show (getL s m).bind _ = _
  rw [getL_eq, h]
  rfl
theorem stop_lst {m : Nat} {s : Store} {l : List MV} (h : celL (cel s m) = some l) : Iter.stop (.lst m) s l.length = true := by
  have : getL s m = some l := by rw [getL_eq, h]
  simp only [Iter.stop, this, Nat.le_refl, decide_true]
end Mini
namespace Mini
theorem okQ_bind {α β : Type} (Q : β → Store → Prop) (o : Out α) (f : α → Store → Out β) : OkQ Q (o.bind f) = OkQ (fun a s => OkQ Q (f a s)) o := by
  rcases o with ⟨a, s⟩ | ⟨x, s⟩ | _ <;> rfl
theorem okQ_back {α β : Type} (Q : β → Store → Prop) (o : Out α) (f : α → Store → Out β) : OkQ (fun a s => OkQ Q (f a s)) o = OkQ Q (o.bind f) := (okQ_bind Q o f).symm
theorem OkQ.mono {α : Type} {Q R : α → Store → Prop} {o : Out α} (h : OkQ Q o) (hi : ∀ a s, Q a s → R a s) : OkQ R o := by
  rcases o with ⟨a, s⟩ | ⟨x, s⟩ | _
  · exact hi a s h
  · exact h
  · exact h
theorem OkQ.get {α : Type} {Q : α → Store → Prop} {o : Out α} (h : OkQ Q o) : ∃ a s, o = .ok a s ∧ Q a s := by
  match o, h with
  | .ok a s, h => exact ⟨a, s, rfl, h⟩
/-- the end of a turn -/
def TurnQ (P : Nat → Env → Store → Prop) (Q : Ctl → Store → Prop) (i : Nat) : Ctl → Store → Prop
  | .next e, s => P (i + 1) e s
  | .cont e, s => P (i + 1) e s
  | .brk e, s => Q (.next e) s
  | .ret v, s => Q (.ret v) s
@[simp] theorem turnQ_next (P : Nat → Env → Store → Prop) (Q : Ctl → Store → Prop) (i : Nat) (e : Env) (s : Store) : TurnQ P Q i (.next e) s = P (i + 1) e s := nr rfl
@[simp] theorem turnQ_cont (P : Nat → Env → Store → Prop) (Q : Ctl → Store → Prop) (i : Nat) (e : Env) (s : Store) : TurnQ P Q i (.cont e) s = P (i + 1) e s := nr rfl
@[simp] theorem turnQ_brk (P : Nat → Env → Store → Prop) (Q : Ctl → Store → Prop) (i : Nat) (e : Env) (s : Store) : TurnQ P Q i (.brk e) s = Q (.next e) s := nr rfl
@[simp] theorem turnQ_ret (P : Nat → Env → Store → Prop) (Q : Ctl → Store → Prop) (i : Nat) (v : MV) (s : Store) : TurnQ P Q i (.ret v) s = Q (.ret v) s := nr rfl
theorem okQ_for {J : Iter} {turn : MV → Env → Store → Out Ctl} {l : List MV} {Q : Ctl → Store → Prop} (P : Nat → Env → Store → Prop) (hg : ∀ i env st, P i env st → i < l.length → J.get st i = l[i]?) (hs : ∀ env st, P l.length env st → J.stop st l.length = true)
    (ht : ∀ i x env st, l[i]? = some x → P i env st → OkQ (TurnQ P Q i) (turn x env st)) (he : ∀ env st, P l.length env st → Q (.next env) st) :
    ∀ (n i : Nat) (env : Env) (st : Store), i + n = l.length → P i env st → OkQ Q (forLoop J turn n i env st)
  | 0, i, env, st, hn, h => by
    have e : i = l.length := by omega
    subst e
    simp only [forLoop, hs env st h, if_true]
    exact he env st h
  | n + 1, i, env, st, hn, h => by
    have hi : i < l.length := by omega
    have hx : l[i]? = some l[i] := List.getElem?_eq_getElem hi
    have h1 := ht i l[i] env st hx h
    simp only [forLoop, hg i env st h hi, hx]
    rw [okQ_bind]
    refine h1.mono fun c s hc => ?_
    rcases c with e | v | e | e
    · exact okQ_for P hg hs ht he n (i + 1) e s (by omega) hc
    · exact hc
    · exact hc
    · exact okQ_for P hg hs ht he n (i + 1) e s (by omega) hc
theorem okQ_rng {lo c : Int} {n : Nat} {turn : MV → Env → Store → Out Ctl} {Q : Ctl → Store → Prop} {env : Env} {st : Store} (P : Nat → Env → Store → Prop) (h0 : P 0 env st)
    (ht : ∀ i env st, i < n → P i env st → OkQ (TurnQ P Q i) (turn (.int (lo + (i : Int) * c)) env st)) (he : ∀ env st, P n env st → Q (.next env) st) : OkQ Q (forLoop (.rng lo c n) turn n 0 env st) := by
  have hl : (rngL lo c n).length = n := rngL_len
  exact okQ_for (l := rngL lo c n) P (fun i env st _ hi => get_rng (by rw [hl] at hi; exact hi)) (fun env st _ => by rw [hl]; exact stop_rng) (fun i x env st hx hp => by
    obtain ⟨hi, e⟩ := rngL_get hx
    rw [e]
    exact ht i env st hi hp) (fun env st h => he env st (by rw [hl] at h; exact h)) n 0 env st (by omega) h0
theorem okQ_lst {m n : Nat} {l : List MV} {turn : MV → Env → Store → Out Ctl} {Q : Ctl → Store → Prop} {env : Env} {st : Store} (hn : n = l.length) (P : Nat → Env → Store → Prop) (h0 : P 0 env st) (hl : ∀ i env st, P i env st → celL (cel st m) = some l)
    (ht : ∀ i x env st, l[i]? = some x → P i env st → OkQ (TurnQ P Q i) (turn x env st)) (he : ∀ env st, P l.length env st → Q (.next env) st) : OkQ Q (forLoop (.lst m) turn n 0 env st) :=
  okQ_for (l := l) P (fun i env st hp _ => get_lst (hl i env st hp)) (fun env st hp => stop_lst (hl _ env st hp)) ht he n 0 env st (by omega) h0
theorem okQ_itm {n : Nat} {l : List MV} {turn : MV → Env → Store → Out Ctl} {Q : Ctl → Store → Prop} {env : Env} {st : Store} (hn : n = l.length) (P : Nat → Env → Store → Prop) (h0 : P 0 env st)
    (ht : ∀ i x env st, l[i]? = some x → P i env st → OkQ (TurnQ P Q i) (turn x env st)) (he : ∀ env st, P l.length env st → Q (.next env) st) : OkQ Q (forLoop (.itm l) turn n 0 env st) :=
  okQ_for (l := l) P (fun i env st hp _ => rfl) (fun env st hp => by simp [Iter.stop]) ht he n 0 env st (by omega) h0
/-- the end of a comprehension's turn: one value -/
def MapQ (R : MV → Prop) (I : Store → Prop) (D : Nat) (s0 : Store) : Option MV → Store → Prop
  | some y, s => R y ∧ (∀ c, cel s0 D = some c → cel s D = some c) ∧ I s
  | none, _ => False
@[simp] theorem mapQ_some (R : MV → Prop) (I : Store → Prop) (D : Nat) (s0 : Store) (y : MV) (s : Store) : MapQ R I D s0 (some y) s = (R y ∧ (∀ c, cel s0 D = some c → cel s D = some c) ∧ I s) := nr rfl
theorem okQ_lcRng {lo c : Int} {n : Nat} {turn : MV → Store → Out (Option MV)} {Q : MV → Store → Prop} {st : Store} (hn : n ≤ sizeMax) (I : Nat → Store → Prop) (R : MV → Prop) (h0 : I 0 (st ++ [.lst []])) (hset : ∀ i s c, I i s → I i (s.set st.length c))
    (ht : ∀ i s, i < n → I i s → OkQ (MapQ R (I (i + 1)) st.length s) (turn (.int (lo + (i : Int) * c)) s)) (he : ∀ acc s, cel s st.length = some (.lst acc) → acc.length = n → (∀ y, y ∈ acc → R y) → I n s → Q (.loc st.length) s) : OkQ Q (lcRun (.rng lo c n) turn st) := by
  have hl : (rngL lo c n).length = n := rngL_len
  obtain ⟨acc, s, h1, h2, h3, h4, h5⟩ := lcRun_map (J := .rng lo c n) (turn := turn) (l := rngL lo c n) (st := st) (by rw [hl]; rfl) (by rw [hl]; exact hn) I (fun _ y => R y) (fun i s _ hi => get_rng (by rw [hl] at hi; exact hi)) (fun s _ => by rw [hl]; exact stop_rng) h0 hset (fun i x s hx hI => by
    obtain ⟨hi, e⟩ := rngL_get hx
    rw [e]
    obtain ⟨o, s', g1, g2⟩ := (ht i s hi hI).get
    match o, g2 with
    | some y, g2 => exact ⟨y, s', g1, g2⟩)
  rw [h1]
  refine he acc s h2 (by rw [h3, hl]) (fun y hy => ?_) (by rw [hl] at h5; exact h5)
  obtain ⟨x, _, h⟩ := h4 y hy
  exact h
theorem okQ_lcLst {m : Nat} {l : List MV} {turn : MV → Store → Out (Option MV)} {Q : MV → Store → Prop} {st : Store} (hm : celL (cel st m) = some l) (hn : l.length ≤ sizeMax) (I : Nat → Store → Prop) (R : MV → Prop) (hl : ∀ i s, I i s → celL (cel s m) = some l) (h0 : I 0 (st ++ [.lst []])) (hset : ∀ i s c, I i s → I i (s.set st.length c))
    (ht : ∀ i x s, l[i]? = some x → I i s → OkQ (MapQ R (I (i + 1)) st.length s) (turn x s)) (he : ∀ acc s, cel s st.length = some (.lst acc) → acc.length = l.length → (∀ y, y ∈ acc → R y) → I l.length s → Q (.loc st.length) s) : OkQ Q (lcRun (.lst m) turn st) := by
  obtain ⟨acc, s, h1, h2, h3, h4, h5⟩ := lcRun_map (J := .lst m) (turn := turn) (l := l) (st := st) (by simp [hm]) hn I (fun _ y => R y) (fun i s hI hi => get_lst (hl i s hI)) (fun s hI => stop_lst (hl _ s hI)) h0 hset (fun i x s hx hI => by
    obtain ⟨o, s', g1, g2⟩ := (ht i x s hx hI).get
    match o, g2 with
    | some y, g2 => exact ⟨y, s', g1, g2⟩)
  rw [h1]
  refine he acc s h2 h3 (fun y hy => ?_) h5
  obtain ⟨x, _, h⟩ := h4 y hy
  exact h
theorem OkQ.eq {α : Type} {a : α} {s : Store} {o : Out α} (h : ∀ Q : α → Store → Prop, Q a s → OkQ Q o) : o = .ok a s := by
  have := h (fun x t => x = a ∧ t = s) ⟨rfl, rfl⟩
  match o, this with
  | .ok x t, ⟨h1, h2⟩ => rw [h1, h2]
/-- a comprehension whose filter lets nothing by -/
theorem okQ_lcNone {m : Nat} {l : List MV} {turn : MV → Store → Out (Option MV)} {Q : MV → Store → Prop} {st : Store} (hm : celL (cel st m) = some l) (I : Nat → Store → Prop) (hl : ∀ i s, I i s → celL (cel s m) = some l) (h0 : I 0 (st ++ [.lst []]))
    (ht : ∀ i x s, l[i]? = some x → I i s → OkQ (fun o s' => o = none ∧ (∀ c, cel s st.length = some c → cel s' st.length = some c) ∧ I (i + 1) s') (turn x s)) (he : ∀ s, cel s st.length = some (.lst []) → I l.length s → Q (.loc st.length) s) : OkQ Q (lcRun (.lst m) turn st) := by
  obtain ⟨acc, s, h1, h2, h3, h4⟩ := lcRun_go (J := .lst m) (turn := turn) (l := l) (st := st) (by simp [hm]) (fun i acc s => I i s ∧ acc = []) (fun i acc s h hi => get_lst (hl i s h.1)) (fun acc s h => stop_lst (hl _ s h.1)) (fun i x acc s hx hD h => by
    obtain ⟨o, s', g1, g2, g3, g4⟩ := (ht i x s hx h.1).get
    subst g2
    exact ⟨none, s', g1, g3 _ hD, by rw [h.2]; decide, g4, h.2⟩) ⟨h0, rfl⟩
  subst h4
  rw [h1]
  exact he s h2 h3
def enmL (l : List MV) : List MV := l.zipIdx.map fun p => .tup [.int p.2, p.1]
theorem enmL_len (l : List MV) : (enmL l).length = l.length := by simp [enmL]
theorem enmL_get (l : List MV) (i : Nat) : (enmL l)[i]? = l[i]?.map fun x => .tup [.int i, x] := by
  simp only [enmL, List.getElem?_map, List.getElem?_zipIdx, Option.map_map]
  cases l[i]? <;> simp
theorem okQ_enm {m n : Nat} {l : List MV} {turn : MV → Env → Store → Out Ctl} {Q : Ctl → Store → Prop} {env : Env} {st : Store} (hn : n = l.length) (P : Nat → Env → Store → Prop) (h0 : P 0 env st) (hl : ∀ i env st, P i env st → celL (cel st m) = some l)
    (ht : ∀ i x env st, l[i]? = some x → P i env st → OkQ (TurnQ P Q i) (turn (.tup [.int i, x]) env st)) (he : ∀ env st, P l.length env st → Q (.next env) st) : OkQ Q (forLoop (.enm m) turn n 0 env st) := by
  refine okQ_for (l := enmL l) P (fun i env st hp hi => ?_) (fun env st hp => ?_) (fun i x env st hx hp => ?_) (fun env st hp => he env st (by rw [enmL_len] at hp; exact hp)) n 0 env st (by rw [enmL_len]; omega) h0
  · have : getL st m = some l := by rw [getL_eq, hl i env st hp]
    rw [enmL_get]
    simp only [Iter.get, this, Option.bind_some]
  · have : getL st m = some l := by rw [getL_eq, hl _ env st hp]
    rw [enmL_len]
    simp only [Iter.stop, this, Nat.le_refl, decide_true]
  · rw [enmL_get] at hx
    cases e : l[i]? with
    | none =>
      rw [e] at hx
      cases hx
    | some y =>
      rw [e] at hx
      cases hx
      exact ht i y env st e hp
end Mini
end

section
set_option linter.all false
set_option maxRecDepth 100000
/-! MiniObj: steps of the evaluator at instances, dicts, masks; comprehensions that are pure. -/
namespace Mini
/-! ### fields, methods, new instances -/
def lkA (f : Nat) (fs : List (Nat × MV)) : Option MV := fs.lookup f
@[simp] theorem lkA_nil (f : Nat) : lkA f [] = none := nr rfl
@[simp] theorem lkA_cons (f g : Nat) (v : MV) (r : List (Nat × MV)) : lkA f ((g, v) :: r) = if f = g then some v else lkA f r := by
  unfold lkA
  rw [List.lookup_cons]
  by_cases h : f = g
  · subst h
    simp
  · simp [h, beq_eq_false_iff_ne.mpr h]
def atV : Option Cell → Nat → Nat → Store → Out MV
  | some (.ins d fs), c, f, st => if d = c then vo (lkA f fs) st else .bad
  | _, _, _, _ => .bad
@[simp] theorem atV_ins (c : Nat) (fs : List (Nat × MV)) (f : Nat) (st : Store) : atV (some (.ins c fs)) c f st = vo (lkA f fs) st := if_pos rfl
@[simp] theorem attV_loc (st : Store) (c f n : Nat) : attV st c f (.loc n) = atV (cel st n) c f st := by
  simp only [attV, getI, cel]
  rcases st[n]? with _ | l | l | ⟨d, fs⟩ | l | l <;> try rfl
  simp only [atV]
  by_cases h : d = c
  · rw [if_pos h, if_pos h]
    simp only [Option.bind_some]
    show (match fs.lookup f with
      | some v => Out.ok v st
      | none => .bad) = vo (fs.lookup f) st
    rcases fs.lookup f with _ | _ <;> rfl
  · rw [if_neg h, if_neg h]
    rfl
def kAtt (c f : Nat) (x : MV) (s1 : Store) : Out MV := attV s1 c f x
@[simp] theorem r_att (C : Cx) (c f : Nat) (o : ME) (env : Env) (st : Store) : evE C (.att c f o) env st = (evE C o env st).bind (kAtt c f) := by simp only [evE]; rfl
@[simp] theorem q_att (c f : Nat) (x : MV) (s : Store) : kAtt c f x s = attV s c f x := nr rfl
def insB : Option Cell → Nat → Bool
  | some (.ins d _), c => decide (d = c)
  | _, _ => false
@[simp] theorem insB_ins (c d : Nat) (fs : List (Nat × MV)) : insB (some (.ins d fs)) c = decide (d = c) := nr rfl
theorem getI_isSome (st : Store) (n c : Nat) : (getI st n c).isSome = insB (cel st n) c := by
  simp only [getI, cel]
  rcases st[n]? with _ | l | l | ⟨d, fs⟩ | l | l <;> try rfl
  simp only [insB]
  by_cases h : d = c
  · rw [if_pos h]; simp [h]
  · rw [if_neg h]; simp [h]
def kMc2 (C : Cx) (f : Nat) (x : MV) (vs : List MV) (s2 : Store) : Out MV := C.call f (x :: vs) s2
def kMcl (C : Cx) (c f : Nat) (l : List ME) (env : Env) (x : MV) (s1 : Store) : Out MV := match x with
      | .loc n => match getI s1 n c with
        | some _ => (evEs C l env s1).bind fun vs s2 => C.call f (x :: vs) s2
        | none => .bad
      | _ => .bad
@[simp] theorem r_mcl (C : Cx) (c f : Nat) (o : ME) (l : List ME) (env : Env) (st : Store) : evE C (.mcl c f o l) env st = (evE C o env st).bind (kMcl C c f l env) := by simp only [evE]; rfl
@[simp] theorem q_mcl (C : Cx) (c f : Nat) (l : List ME) (env : Env) (n : Nat) (s : Store) : kMcl C c f l env (.loc n) s = if insB (cel s n) c = true then (evEs C l env s).bind (kMc2 C f (.loc n)) else .bad := by
  rw [← getI_isSome]
  simp only [kMcl]
  rcases getI s n c with _ | _
  · rfl
  · rfl
@[simp] theorem q_mc2 (C : Cx) (f : Nat) (x : MV) (vs : List MV) (s : Store) : kMc2 C f x vs s = C.call f (x :: vs) s := nr rfl
def kTMcl (z : MV) (s2 : Store) : Out Bool := truth s2 z
@[simp] theorem t_att (C : Cx) (c f : Nat) (o : ME) (env : Env) (st : Store) : tst C (.att c f o) env st = (evE C (.att c f o) env st).bind kTr := by simp only [tst]; rfl
@[simp] theorem t_mcl (C : Cx) (c f : Nat) (o : ME) (l : List ME) (env : Env) (st : Store) : tst C (.mcl c f o l) env st = (evE C (.mcl c f o l) env st).bind kTr := by simp only [tst]; rfl
@[simp] theorem t_cin (C : Cx) (b : Bool) (c f : Nat) (a o : ME) (env : Env) (st : Store) : tst C (.cin b c f a o) env st = (evE C (.cin b c f a o) env st).bind kTr := by simp only [tst]; rfl
def kMk2 (n : Nat) (r : MV) (s2 : Store) : Out MV := match r with
      | .non => .ok (.loc n) s2
      | _ => .bad
def kMk (C : Cx) (c f : Nat) (vs : List MV) (s1 : Store) : Out MV := (C.call f (.loc s1.length :: vs) (s1 ++ [.ins c []])).bind fun r s2 => match r with
      | .non => .ok (.loc s1.length) s2
      | _ => .bad
@[simp] theorem r_mk (C : Cx) (c f : Nat) (l : List ME) (env : Env) (st : Store) : evE C (.mk c f l) env st = (evEs C l env st).bind (kMk C c f) := by simp only [evE]; rfl
@[simp] theorem q_mk (C : Cx) (c f : Nat) (vs : List MV) (s : Store) : kMk C c f vs s = (C.call f (.loc s.length :: vs) (s ++ [.ins c []])).bind (kMk2 s.length) := nr rfl
@[simp] theorem q_mk2 (n : Nat) (s : Store) : kMk2 n .non s = .ok (.loc n) s := nr rfl
@[simp] theorem r_dct0 (C : Cx) (env : Env) (st : Store) : evE C .dct0 env st = .ok (.loc st.length) (st ++ [.dct []]) := by simp only [evE]
def kCi3 (neg : Bool) (r : MV) (s3 : Store) : Out MV := match r with
          | .bl b => .ok (.bl (if neg then !b else b)) s3
          | _ => .bad
def kCi2 (C : Cx) (neg : Bool) (c f : Nat) (x y : MV) (s2 : Store) : Out MV := match y with
      | .loc n => match getI s2 n c with
        | some _ => (C.call f [y, x] s2).bind fun r s3 => match r with
          | .bl b => .ok (.bl (if neg then !b else b)) s3
          | _ => .bad
        | none => .bad
      | _ => .bad
def kCi1 (C : Cx) (neg : Bool) (c f : Nat) (o : ME) (env : Env) (x : MV) (s1 : Store) : Out MV := (evE C o env s1).bind fun y s2 => kCi2 C neg c f x y s2
@[simp] theorem r_cin (C : Cx) (b : Bool) (c f : Nat) (a o : ME) (env : Env) (st : Store) : evE C (.cin b c f a o) env st = (evE C a env st).bind (kCi1 C b c f o env) := by simp only [evE]; rfl
@[simp] theorem q_ci1 (C : Cx) (b : Bool) (c f : Nat) (o : ME) (env : Env) (x : MV) (s : Store) : kCi1 C b c f o env x s = (evE C o env s).bind (kCi2 C b c f x) := nr rfl
@[simp] theorem q_ci2 (C : Cx) (b : Bool) (c f : Nat) (x : MV) (n : Nat) (s : Store) : kCi2 C b c f x (.loc n) s = if insB (cel s n) c = true then (C.call f [.loc n, x] s).bind (kCi3 b) else .bad := by
  rw [← getI_isSome]
  simp only [kCi2]
  rcases getI s n c with _ | _
  · rfl
  · rfl
@[simp] theorem q_ci3 (neg b : Bool) (s : Store) : kCi3 neg (.bl b) s = .ok (.bl (if neg then !b else b)) s := nr rfl
def kTupR1 (C : Cx) (b : ME) (env : Env) (x : MV) (s1 : Store) : Out MV := (evE C b env s1).bind fun y s2 => mkTupR x y s2
def kTupR2 (x y : MV) (s2 : Store) : Out MV := mkTupR x y s2
@[simp] theorem r_tupR (C : Cx) (a b : ME) (env : Env) (st : Store) : evE C (.tupR a b) env st = (evE C a env st).bind (kTupR1 C b env) := by simp only [evE]; rfl
@[simp] theorem q_tupR1 (C : Cx) (b : ME) (env : Env) (x : MV) (s : Store) : kTupR1 C b env x s = (evE C b env s).bind (kTupR2 x) := nr rfl
@[simp] theorem q_tupR2 (x y : MV) (s : Store) : kTupR2 x y s = mkTupR x y s := nr rfl
theorem mkTupR_ok {i j : Int} {s : Store} (h : -1000000 ≤ i ∧ i ≤ 1000000 ∧ -1000000 ≤ j ∧ j ≤ 1000000) : mkTupR (.int i) (.int j) s = .ok (.tup (rgL i j)) s := if_pos h
/-! ### a field is stored -/
def kSa1 (C : Cx) (c f : Nat) (o : ME) (env : Env) (v : MV) (s1 : Store) : Out Ctl := (evE C o env s1).bind fun x s2 => (setAttV c f x v s2).bind fun _ s3 => .ok (.next env) s3
def kSa2 (c f : Nat) (env : Env) (v x : MV) (s2 : Store) : Out Ctl := (setAttV c f x v s2).bind fun _ s3 => .ok (.next env) s3
@[simp] theorem s_setAt (C : Cx) (c f : Nat) (o e : ME) (env : Env) (st : Store) : evS C (.setAt c f o e) env st = (evE C e env st).bind (kSa1 C c f o env) := by simp only [evS]; rfl
@[simp] theorem q_sa1 (C : Cx) (c f : Nat) (o : ME) (env : Env) (v : MV) (s : Store) : kSa1 C c f o env v s = (evE C o env s).bind (kSa2 c f env v) := nr rfl
@[simp] theorem q_sa2 (c f : Nat) (env : Env) (v x : MV) (s : Store) : kSa2 c f env v x s = (setAttV c f x v s).bind (kSet4 env) := nr rfl
def saV : Option Cell → Nat → Nat → Nat → MV → Store → Out Unit
  | some (.ins d fs), n, c, f, v, st => if d = c then (if fs.length < 100 then .ok () (st.set n (.ins c (putI f v fs))) else .bad) else .bad
  | _, _, _, _, _, _ => .bad
@[simp] theorem saV_ins (c n f : Nat) (fs : List (Nat × MV)) (v : MV) (st : Store) : saV (some (.ins c fs)) n c f v st = if fs.length < 100 then .ok () (st.set n (.ins c (putI f v fs))) else .bad := if_pos rfl
@[simp] theorem setAttV_loc (c f n : Nat) (v : MV) (st : Store) : setAttV c f (.loc n) v st = saV (cel st n) n c f v st := by
  simp only [setAttV, getI, cel]
  rcases st[n]? with _ | l | l | ⟨d, fs⟩ | l | l <;> try rfl
  simp only [saV]
  by_cases h : d = c
  · rw [if_pos h, if_pos h]
  · rw [if_neg h, if_neg h]
/-! ### the keys of a locked dict -/
def kyV : Option Cell → Nat → Store → Out Iter
  | some (.rdc _), n, st => .ok (.dct n) st
  | _, _, _ => .bad
@[simp] theorem kyV_rdc (l : List (Int × MV)) (n : Nat) (st : Store) : kyV (some (.rdc l)) n st = .ok (.dct n) st := nr rfl
def kyE : Option (Option MV) → Store → Out Iter
  | some (some (.loc n)), st => kyV (cel st n) n st
  | _, _ => .bad
@[simp] theorem kyE_loc (n : Nat) (st : Store) : kyE (some (some (.loc n))) st = kyV (cel st n) n st := nr rfl
@[simp] theorem i_keys (C : Cx) (i : Nat) (env : Env) (st : Store) : evI C (.keys i) env st = kyE env[i]? st := by
  simp only [evI]
  rcases env[i]? with _ | _ | _ | _ | _ | _ | _ | n | _ <;> try rfl
  simp only [kyE, cel]
  rcases st[n]? with _ | _ | _ | _ | _ | _ <;> rfl
def lkO (n : Nat) (c : Ctl) (s : Store) : Option Cell → Out Ctl
  | some (.rdc l) => .ok c (s.set n (.dct l))
  | _ => .bad
@[simp] theorem lkO_rdc (n : Nat) (c : Ctl) (s : Store) (l : List (Int × MV)) : lkO n c s (some (.rdc l)) = .ok c (s.set n (.dct l)) := nr rfl
def kLock (n : Nat) (c : Ctl) (s2 : Store) : Out Ctl := match s2[n]? with
        | some (.rdc l) => .ok c (s2.set n (.dct l))
        | _ => .bad
@[simp] theorem q_lock (n : Nat) (c : Ctl) (s : Store) : kLock n c s = lkO n c s (cel s n) := by
  simp only [kLock, cel]
  rcases s[n]? with _ | _ | _ | _ | _ | _ <;> rfl
def lkV (C : Cx) (t : MS) (env : Env) (n : Nat) (st : Store) : Option Cell → Out Ctl
  | some (.dct kvs) => (evS C t env (st.set n (.rdc kvs))).bind (kLock n)
  | _ => .bad
@[simp] theorem lkV_dct (C : Cx) (t : MS) (env : Env) (n : Nat) (st : Store) (kvs : List (Int × MV)) : lkV C t env n st (some (.dct kvs)) = (evS C t env (st.set n (.rdc kvs))).bind (kLock n) := nr rfl
def lkE (C : Cx) (t : MS) (env : Env) (st : Store) : Option (Option MV) → Out Ctl
  | some (some (.loc n)) => lkV C t env n st (cel st n)
  | _ => .bad
@[simp] theorem lkE_loc (C : Cx) (t : MS) (env : Env) (st : Store) (n : Nat) : lkE C t env st (some (some (.loc n))) = lkV C t env n st (cel st n) := nr rfl
@[simp] theorem s_lock (C : Cx) (i : Nat) (t : MS) (env : Env) (st : Store) : evS C (.lock i t) env st = lkE C t env st env[i]? := by
  simp only [evS]
  rcases env[i]? with _ | _ | _ | _ | _ | _ | _ | n | _ <;> try rfl
/-! ### masks, in, tuple, sorted -/
theorem o_band {i j : Int} {s : Store} (h : 0 ≤ i) : op2 .band (.int i) (.int j) s = .ok (.int (band i j)) s := if_pos h
theorem o_bor {i j : Int} {s : Store} (h : 0 ≤ i) (h2 : 0 ≤ j) : op2 .bor (.int i) (.int j) s = .ok (.int (bor i j)) s := if_pos ⟨h, h2⟩
theorem o_shl {i j : Int} {s : Store} (h : 0 ≤ j ∧ j ≤ 1000000 ∧ i.natAbs < 2 ^ 64) : op2 .shl (.int i) (.int j) s = .ok (.int (i * 2 ^ j.toNat)) s := if_pos h
theorem o_shr {i j : Int} {s : Store} (h : 0 ≤ j) : op2 .shr (.int i) (.int j) s = .ok (.int (i / 2 ^ j.toNat)) s := if_pos h
@[simp] theorem p_inv (C : Cx) (i : Int) (s : Store) : prim C .inv [.int i] s = .ok (.int (-i - 1)) s := nr rfl
@[simp] theorem allInts_map (l : List Int) : allInts (l.map .int) = some l := by
  induction l with
  | nil => rfl
  | cons i r ih => simp only [List.map_cons, allInts, ih, Option.map_some]
def inV (i : Int) : Option Cell → Option Bool
  | some (.lst l) => (allInts l).map fun l => decide (i ∈ l)
  | some (.ro l) => (allInts l).map fun l => decide (i ∈ l)
  | some (.dct l) => some (decide (i ∈ l.map (·.1)))
  | some (.rdc l) => some (decide (i ∈ l.map (·.1)))
  | _ => none
@[simp] theorem inV_lst (i : Int) (l : List MV) : inV i (some (.lst l)) = (allInts l).map fun l => decide (i ∈ l) := nr rfl
@[simp] theorem inV_dct (i : Int) (l : List (Int × MV)) : inV i (some (.dct l)) = some (decide (i ∈ l.map (·.1))) := nr rfl
@[simp] theorem opIn_loc (st : Store) (i : Int) (n : Nat) : opIn st (.int i) (.loc n) = inV i (cel st n) := by
  simp only [opIn, cel, getD, getL]
  rcases st[n]? with _ | l | l | ⟨d, fs⟩ | l | l <;> rfl
@[simp] theorem opIn_tup (st : Store) (i : Int) (l : List MV) : opIn st (.int i) (.tup l) = (allInts l).map fun l => decide (i ∈ l) := nr rfl
def bo : Option Bool → Store → Out MV
  | some b, st => .ok (.bl b) st
  | none, _ => .bad
@[simp] theorem bo_some (b : Bool) (st : Store) : bo (some b) st = .ok (.bl b) st := nr rfl
@[simp] theorem o_in (x y : MV) (st : Store) : op2 .inn x y st = bo (opIn st x y) st := by
  simp only [op2]
  rcases opIn st x y with _ | _ <;> rfl
@[simp] theorem o_notIn (x y : MV) (st : Store) : op2 .notIn x y st = bo ((opIn st x y).map (!·)) st := by
  simp only [op2]
  rcases opIn st x y with _ | _ <;> rfl
def tpV : Option (List MV) → Store → Out MV
  | some l, st => if l.length ≤ 1000 then .ok (.tup l) st else .bad
  | none, _ => .bad
theorem tpV_ok {l : List MV} {st : Store} (h : l.length ≤ 1000) : tpV (some l) st = .ok (.tup l) st := if_pos h
@[simp] theorem p_tuple (C : Cx) (n : Nat) (st : Store) : prim C .tuple [.loc n] st = tpV (celL (cel st n)) st := by
  rw [← getL_eq]
  simp only [prim]
  rcases getL st n with _ | _ <;> rfl
@[simp] theorem p_tupleT (C : Cx) (l : List MV) (st : Store) : prim C .tuple [.tup l] st = .ok (.tup l) st := nr rfl
theorem p_sortedL {C : Cx} {n : Nat} {l : List Int} {st : Store} (h : cel st n = some (.lst (l.map .int))) (h2 : l.length < 64) : prim C .sorted [.loc n] st = newL ((sortI l).map .int) st := by
  simp only [prim, getL_eq, h, celL_lst, Option.bind_some, allInts_map, if_pos h2]
theorem p_sortedD {C : Cx} {n : Nat} {l : List (Int × MV)} {st : Store} (h : cel st n = some (.dct l)) (h2 : l.length < 64) : prim C .sorted [.loc n] st = newL ((sortI (l.map (·.1))).map .int) st := by
  have e : celL (cel st n) = none := by rw [h]; rfl
  have g : getD st n = some l := by unfold getD; unfold cel at h; rw [h]
  simp only [prim, getL_eq, e, Option.bind_none, g, if_pos h2]
theorem m_pop {n : Nat} {i : Int} {l : List MV} {v : MV} {st : Store} (h : cel st n = some (.lst l)) (h0 : 0 ≤ i) (h1 : i < l.length) (h2 : l.length ≤ 16000000) (hv : l[i.toNat]? = some v) : meth .pop (.loc n) [.int i] st = .ok v (st.set n (.lst (l.eraseIdx i.toNat))) := by
  unfold cel at h
  have : 0 ≤ i ∧ i < l.length ∧ l.length ≤ sizeMax := ⟨h0, h1, h2⟩
  simp only [meth, h, if_pos this, hv]
theorem m_insert {n : Nat} {i : Int} {l : List MV} {y : MV} {st : Store} (h : cel st n = some (.lst l)) (h0 : 0 ≤ i) (h1 : i ≤ l.length) (h2 : l.length < 16000000) : meth .insert (.loc n) [.int i, y] st = .ok .non (st.set n (.lst (l.take i.toNat ++ y :: l.drop i.toNat))) := by
  unfold cel at h
  have : 0 ≤ i ∧ i ≤ l.length ∧ l.length < sizeMax := ⟨h0, h1, h2⟩
  simp only [meth, h, if_pos this]
@[simp] theorem m_bitLen (i : Int) (s : Store) : meth .bitLen (.int i) [] s = if 0 ≤ i then .ok (.int (if i = 0 then 0 else (i.toNat.log2 : Int) + 1)) s else .bad := nr rfl
/-! ### dict comprehensions -/
def kDc2 (x y : MV) (s4 : Store) : Out (MV × MV) := .ok (x, y) s4
def kDc1 (C : Cx) (v : ME) (env2 : Env) (a : MV) (s3 : Store) : Out (MV × MV) := (evE C v env2 s3).bind fun b s4 => .ok (a, b) s4
def dcTurn (C : Cx) (g : MG) (k v : ME) (env : Env) (w : MV) (s : Store) : Out (MV × MV) := match setG g w env with
      | none => .bad
      | some env2 => (evE C k env2 s).bind fun a s3 => (evE C v env2 s3).bind fun b s4 => .ok (a, b) s4
def kDcJ (C : Cx) (g : MG) (k v : ME) (env : Env) (J : Iter) (s2 : Store) : Out MV := dcRun J (dcTurn C g k v env) s2
def kDcS (C : Cx) (g : MG) (k v : ME) (env : Env) (x : MV) (s1 : Store) : Out MV := (mkSeq x s1).bind fun J s2 => dcRun J (dcTurn C g k v env) s2
@[simp] theorem r_dcS (C : Cx) (g : MG) (it k v : ME) (env : Env) (st : Store) : evE C (.dcS g it k v) env st = (evE C it env st).bind (kDcS C g k v env) := by simp only [evE]; rfl
@[simp] theorem q_dcS (C : Cx) (g : MG) (k v : ME) (env : Env) (x : MV) (s : Store) : kDcS C g k v env x s = (mkSeq x s).bind (kDcJ C g k v env) := nr rfl
@[simp] theorem q_dcJ (C : Cx) (g : MG) (k v : ME) (env : Env) (J : Iter) (s : Store) : kDcJ C g k v env J s = dcRun J (dcTurn C g k v env) s := nr rfl
@[simp] theorem dcTurn_nm (C : Cx) (i : Nat) (k v : ME) (env : Env) (w : MV) (s : Store) : dcTurn C (.nm i) k v env w s = (evE C k (env.set i (some w)) s).bind (kDc1 C v (env.set i (some w))) := nr rfl
@[simp] theorem q_dc1 (C : Cx) (v : ME) (env2 : Env) (a : MV) (s : Store) : kDc1 C v env2 a s = (evE C v env2 s).bind (kDc2 a) := nr rfl
@[simp] theorem q_dc2 (x y : MV) (s : Store) : kDc2 x y s = .ok (x, y) s := nr rfl
/-! ### what is walked -/
/-- J walks l, as long as the places out of w stay -/
def Walks (J : Iter) (l : List MV) (w : List Nat) (st : Store) : Prop := J.cnt st = l.length ∧ ∀ s, Keep w st s → (∀ i, i < l.length → J.get s i = l[i]?) ∧ J.stop s l.length = true
theorem walks_itm {l : List MV} {w : List Nat} {st : Store} : Walks (.itm l) l w st := ⟨rfl, fun s _ => ⟨fun i _ => rfl, by simp [Iter.stop]⟩⟩
theorem walks_lst {m : Nat} {l : List MV} {w : List Nat} {st : Store} (h : cel st m = some (.lst l)) (hm : m ∉ w) : Walks (.lst m) l w st :=
  ⟨by simp [h], fun s k => by
    have e : celL (cel s m) = some l := by rw [cel_keep k h hm]; rfl
    exact ⟨fun i _ => get_lst e, stop_lst e⟩⟩
theorem walks_rng {lo c : Int} {n : Nat} {w : List Nat} {st : Store} : Walks (.rng lo c n) (rngL lo c n) w st :=
  ⟨by rw [rngL_len]; rfl, fun s _ => ⟨fun i hi => get_rng (by rw [rngL_len] at hi; exact hi), by rw [rngL_len]; exact stop_rng⟩⟩
theorem getD_eq {st : Store} {n : Nat} {l : List (Int × MV)} (h : cel st n = some (.rdc l)) : getD st n = some l := by unfold getD; unfold cel at h; rw [h]
theorem walks_dct {m : Nat} {l : List (Int × MV)} {w : List Nat} {st : Store} (h : cel st m = some (.rdc l)) (hm : m ∉ w) : Walks (.dct m) (l.map fun p => .int p.1) w st :=
  ⟨by simp [Iter.cnt, getD_eq h], fun s k => by
    have e := getD_eq (cel_keep k h hm)
    refine ⟨fun i _ => ?_, ?_⟩
    · simp only [Iter.get, e, Option.bind_some, List.getElem?_map]
    · simp only [Iter.stop, e, List.length_map, Nat.le_refl, decide_true]⟩
/-! ### a comprehension whose filter and value are told by functions -/
theorem okQ_lcF {J : Iter} {l : List MV} {w : List Nat} {turn : MV → Store → Out (Option MV)} {Q : MV → Store → Prop} {st : Store} (p : MV → Bool) (f : MV → MV) (hJ : Walks J l w st) (hn : l.length ≤ 16000000)
    (ht : ∀ x s, x ∈ l → Keep w st s → OkQ (fun o s' => o = (if p x = true then some (f x) else none) ∧ Keep w s s') (turn x s))
    (he : ∀ s, Keep w st s → cel s st.length = some (.lst ((l.filter p).map f)) → Q (.loc st.length) s) (hw : ∀ x, x ∈ w → x < st.length) : OkQ Q (lcRun J turn st) := by
  have hfw : ∀ {s s' : Store}, Keep w s s' → ∀ c, cel s st.length = some c → cel s' st.length = some c := fun k c h => cel_keep k h (fun z => Nat.lt_irrefl _ (hw _ z))
  obtain ⟨acc, s, h1, h2, h3, h4⟩ := lcRun_go (J := J) (turn := turn) (l := l) (st := st) hJ.1 (fun i acc s => Keep w st s ∧ acc = ((l.take i).filter p).map f) (fun i acc s h hi => (hJ.2 s h.1).1 i hi) (fun acc s h => (hJ.2 s h.1).2) (fun i x acc s hx hD h => by
    have hi : i < l.length := (List.getElem?_eq_some_iff.mp hx).1
    obtain ⟨o, s', g1, g2, g3⟩ := (ht x s (List.mem_of_getElem? hx) h.1).get
    have e : ((l.take (i + 1)).filter p).map f = acc ++ ([x].filter p).map f := by rw [List.take_add_one, hx, h.2]; simp
    have hlen : acc.length < sizeMax := by
      rw [h.2, List.length_map]
      have := List.length_filter_le p (l.take i)
      rw [List.length_take] at this
      unfold sizeMax
      omega
    by_cases hp : p x = true
    · rw [if_pos hp] at g2
      subst g2
      refine ⟨some (f x), s', g1, hfw g3 _ hD, hlen, ?_, ?_⟩
      · exact Keep.setNew (h.1.trans g3) (Nat.le_refl _)
      · rw [e]; simp [hp]
    · rw [if_neg hp] at g2
      subst g2
      refine ⟨none, s', g1, hfw g3 _ hD, hlen, h.1.trans g3, ?_⟩
      rw [e]; simp [hp]) ⟨Keep.new.weak, rfl⟩
  subst h4
  rw [List.take_length] at h2
  rw [h1]
  exact he s h3 h2
end Mini
end

section
set_option linter.all false
set_option maxRecDepth 100000
/-! MiniMask: masks as sets of numbers; loops and comprehensions over whole numbers. Core Lean only. -/
namespace Mini
/-- m's bits are P -/
def Msk (m : Int) (P : Nat → Prop) : Prop := 0 ≤ m ∧ ∀ i, m.toNat.testBit i = true ↔ P i
theorem Msk.nn {m : Int} {P : Nat → Prop} (h : Msk m P) : 0 ≤ m := h.1
theorem Msk.zero : Msk 0 (fun _ => False) := ⟨Int.le_refl 0, fun i => by simp⟩
theorem Msk.congr {m : Int} {P Q : Nat → Prop} (h : Msk m P) (e : ∀ i, P i ↔ Q i) : Msk m Q := ⟨h.1, fun i => (h.2 i).trans (e i)⟩
theorem Msk.or {a b : Int} {P Q : Nat → Prop} (h : Msk a P) (g : Msk b Q) : Msk (bor a b) (fun i => P i ∨ Q i) := by
  refine ⟨by unfold bor; omega, fun i => ?_⟩
  unfold bor
  rw [Int.toNat_natCast, Nat.testBit_or, Bool.or_eq_true, h.2, g.2]
theorem Msk.and {a b : Int} {P Q : Nat → Prop} (h : Msk a P) (g : Msk b Q) : Msk (band a b) (fun i => P i ∧ Q i) := by
  unfold band
  rw [if_pos g.1]
  refine ⟨by omega, fun i => ?_⟩
  rw [Int.toNat_natCast, Nat.testBit_and, Bool.and_eq_true, h.2, g.2]
theorem and_add_xor : ∀ (n x y : Nat), x ≤ n → (x &&& y) + (x ^^^ (x &&& y)) = x
  | 0, x, y, h => by
    have : x = 0 := by omega
    subst this
    simp
  | n + 1, x, y, h => by
    by_cases h0 : x = 0
    · subst h0
      simp
    · have ih := and_add_xor n (x / 2) (y / 2) (by omega)
      have e1 : (x &&& y) / 2 = x / 2 &&& y / 2 := Nat.and_div_two
      have e2 : (x ^^^ (x &&& y)) / 2 = x / 2 ^^^ (x / 2 &&& y / 2) := by rw [Nat.xor_div_two, e1]
      have e3 : (x &&& y) % 2 = x % 2 &&& y % 2 := Nat.and_mod_two_pow (n := 1)
      have e4 : (x ^^^ (x &&& y)) % 2 = x % 2 ^^^ (x % 2 &&& y % 2) := by rw [← e3]; exact Nat.xor_mod_two_pow (n := 1)
      have e5 : (x % 2 &&& y % 2) + (x % 2 ^^^ (x % 2 &&& y % 2)) = x % 2 := by
        rcases Nat.mod_two_eq_zero_or_one x with hx | hx <;> rcases Nat.mod_two_eq_zero_or_one y with hy | hy <;> rw [hx, hy] <;> rfl
      omega
theorem sub_and (x y : Nat) : x - (x &&& y) = x ^^^ (x &&& y) := by
  have := and_add_xor x x y (Nat.le_refl _)
  omega
theorem Msk.andInv {a b : Int} {P Q : Nat → Prop} (h : Msk a P) (g : Msk b Q) : Msk (band a (-b - 1)) (fun i => P i ∧ ¬Q i) := by
  have h1 := h.1
  have h2 := g.1
  unfold band
  rw [if_neg (by omega), show (-(-b - 1) - 1 : Int) = b by omega]
  have hle : a.toNat &&& b.toNat ≤ a.toNat := Nat.and_le_left
  have e : a - ((a.toNat &&& b.toNat : Nat) : Int) = ((a.toNat - (a.toNat &&& b.toNat) : Nat) : Int) := by omega
  rw [e]
  refine ⟨by omega, fun i => ?_⟩
  show _ ↔ (P i ∧ ¬Q i)
  rw [Int.toNat_natCast, sub_and, Nat.testBit_xor, Nat.testBit_and, ← h.2 i, ← g.2 i]
  cases a.toNat.testBit i <;> cases b.toNat.testBit i <;> simp
theorem shl1 {n : Nat} {s : Store} (h : n ≤ 1000000) : op2 .shl (.int 1) (.int (n : Int)) s = .ok (.int (2 ^ n)) s := by
  rw [o_shl ⟨by omega, by omega, by decide⟩, Int.toNat_natCast, Int.one_mul]
theorem shr1 {i : Int} {n : Nat} {s : Store} : op2 .shr (.int i) (.int (n : Int)) s = .ok (.int (i / 2 ^ n)) s := by
  rw [o_shr (by omega), Int.toNat_natCast]
theorem Msk.one {n : Nat} : Msk (2 ^ n) (fun i => i = n) := by
  have e : (2 ^ n : Int) = ((2 ^ n : Nat) : Int) := by simp
  rw [e]
  refine ⟨Int.natCast_nonneg _, fun i => ?_⟩
  rw [Int.toNat_natCast, Nat.testBit_two_pow, decide_eq_true_eq]
  exact eq_comm
theorem Msk.inj {a b : Int} {P Q : Nat → Prop} (h : Msk a P) (g : Msk b Q) (e : ∀ i, P i ↔ Q i) : a = b := by
  have h1 := h.1
  have h2 := g.1
  have : a.toNat = b.toNat := Nat.eq_of_testBit_eq fun i => by
    rw [Bool.eq_iff_iff, h.2, g.2]
    exact e i
  omega
theorem Msk.eq_iff {a b : Int} {P Q : Nat → Prop} (h : Msk a P) (g : Msk b Q) : a = b ↔ ∀ i, P i ↔ Q i := ⟨fun e i => by rw [← h.2 i, ← g.2 i, e], fun e => h.inj g e⟩
theorem Msk.zero_iff {a : Int} {P : Nat → Prop} (h : Msk a P) : a = 0 ↔ ∀ i, ¬P i := (h.eq_iff Msk.zero).trans ⟨fun e i => (e i).mp, fun e i => ⟨e i, False.elim⟩⟩
/-- the look at one bit -/
theorem Msk.bit {m : Int} {P : Nat → Prop} (h : Msk m P) (n : Nat) : band (m / 2 ^ n) 1 = 1 ↔ P n := by
  have h1 := h.1
  rw [← h.2 n]
  have e : (m / 2 ^ n : Int) = ((m.toNat / 2 ^ n : Nat) : Int) := by
    have : m = (m.toNat : Int) := by omega
    conv => lhs; rw [this]
    rw [Int.natCast_ediv]
    simp
  rw [e]
  unfold band
  rw [if_pos (by decide), Int.toNat_natCast, show (1 : Int).toNat = 1 from rfl, Nat.and_one_is_mod]
  rw [Nat.testBit_eq_decide_div_mod_eq, decide_eq_true_eq]
  omega
theorem Msk.div_nn {m : Int} {P : Nat → Prop} (h : Msk m P) (n : Nat) : 0 ≤ m / 2 ^ n := Int.ediv_nonneg h.1 (Int.le_of_lt (Int.pow_pos (by decide)))
/-! ### loops -/
theorem okQ_forW {J : Iter} {l : List MV} {w : List Nat} {turn : MV → Env → Store → Out Ctl} {Q : Ctl → Store → Prop} {env : Env} {st : Store} {n : Nat} (P : Nat → Env → Store → Prop) (hJ : Walks J l w st) (hn : n = l.length) (hP : ∀ i e s, P i e s → Keep w st s) (h0 : P 0 env st)
    (ht : ∀ i x e s, l[i]? = some x → P i e s → OkQ (TurnQ P Q i) (turn x e s)) (he : ∀ e s, P l.length e s → Q (.next e) s) : OkQ Q (forLoop J turn n 0 env st) :=
  okQ_for (l := l) P (fun i e s hp hi => (hJ.2 s (hP i e s hp)).1 i hi) (fun e s hp => (hJ.2 s (hP _ e s hp)).2) ht he n 0 env st (by omega) h0
/-! ### comprehensions over whole numbers -/
def rgI (lo : Int) (n : Nat) : List Int := (List.range n).map fun (i : Nat) => lo + (i : Int)
theorem rgI_map (lo : Int) (n : Nat) : rngL lo 1 n = (rgI lo n).map .int := by simp [rngL, rgI]
theorem mem_rgI {lo : Int} {n : Nat} {x : Int} : x ∈ rgI lo n ↔ lo ≤ x ∧ x < lo + n := by
  simp only [rgI, List.mem_map, List.mem_range]
  constructor
  · rintro ⟨i, hi, rfl⟩
    omega
  · intro h
    exact ⟨(x - lo).toNat, by omega, by omega⟩
@[simp] theorem rgI_len (lo : Int) (n : Nat) : (rgI lo n).length = n := by simp [rgI]
theorem rgL_map (a b : Int) : rgL a b = (rgI a (b - a).toNat).map .int := by simp [rgL, rgI]
theorem walks_rng1 {lo : Int} {n : Nat} {w : List Nat} {st : Store} : Walks (.rng lo 1 n) ((rgI lo n).map .int) w st := by rw [← rgI_map]; exact walks_rng
theorem okQ_lcI {J : Iter} {l : List Int} {w : List Nat} {turn : MV → Store → Out (Option MV)} {Q : MV → Store → Prop} {st : Store} (p : Int → Bool) (f : Int → MV) (hJ : Walks J (l.map .int) w st) (hn : l.length ≤ 16000000)
    (ht : ∀ x s, x ∈ l → Keep w st s → OkQ (fun o s' => o = (if p x = true then some (f x) else none) ∧ Keep w s s') (turn (.int x) s))
    (he : ∀ s, Keep w st s → cel s st.length = some (.lst ((l.filter p).map f)) → Q (.loc st.length) s) (hw : ∀ x, x ∈ w → x < st.length) : OkQ Q (lcRun J turn st) := by
  refine okQ_lcF (l := l.map .int) (fun v => match v with
    | .int x => p x
    | _ => false) (fun v => match v with
    | .int x => f x
    | _ => .non) hJ (by simpa using hn) (fun x s hx k => ?_) (fun s k h => he s k ?_) hw
  · obtain ⟨i, hi, rfl⟩ := List.mem_map.mp hx
    exact ht i s hi k
  · rw [h, List.filter_map, List.map_map]
    rfl
theorem any_len {α : Type} (p : α → Bool) (l : List α) : decide ((0 : Int) < ((l.filter p).length : Int)) = l.any p := by
  rw [Bool.eq_iff_iff, decide_eq_true_eq, List.any_eq_true]
  constructor
  · intro h
    have : 0 < (l.filter p).length := by omega
    obtain ⟨x, hx⟩ := List.length_pos_iff_exists_mem.mp this
    exact ⟨x, List.mem_filter.mp hx⟩
  · rintro ⟨x, hx⟩
    have : 0 < (l.filter p).length := List.length_pos_iff_exists_mem.mpr ⟨x, List.mem_filter.mpr hx⟩
    omega
/-- v for v in a list of whole numbers if a test that is told by a function -/
theorem ev_filt {C : Cx} {i : Nat} {it c : ME} {env : Env} {st : Store} {a : Nat} {xs : List Int} (p : Int → Bool) (h1 : evE C it env st = .ok (.loc a) st) (ha : cel st a = some (.lst (xs.map .int))) (hn : xs.length ≤ 16000000)
    (h2 : ∀ x acc, x ∈ xs → tst C c (env.set i (some (.int x))) (st ++ [.lst acc]) = .ok (p x) (st ++ [.lst acc])) (hi : i < env.length) :
    evE C (.lcS (.nm i) it [c] (.var i)) env st = .ok (.loc st.length) (st ++ [.lst ((xs.filter p).map .int)]) := by
  have go : ∀ (n k : Nat) (acc : List Int), k + n = xs.length → acc = (xs.take k).filter p → lcLoop (.lst a) st.length (lcTurn C (.nm i) [c] (.var i) env) n k (st ++ [.lst (acc.map .int)]) = .ok (.loc st.length) (st ++ [.lst ((xs.filter p).map .int)]) := by
    intro n
    induction n with
    | zero =>
      intro k acc hk e
      have e1 : celL (cel (st ++ [.lst (acc.map .int)]) a) = some (xs.map .int) := by rw [cel_app_old ha]; rfl
      have := stop_lst e1
      rw [List.length_map, show xs.length = k by omega] at this
      simp only [lcLoop, this, if_true]
      rw [e, show k = xs.length by omega, List.take_length]
    | succ n ih =>
      intro k acc hk e
      have hlt : k < xs.length := by omega
      have e1 : celL (cel (st ++ [.lst (acc.map .int)]) a) = some (xs.map .int) := by rw [cel_app_old ha]; rfl
      have e2 : Iter.get (.lst a) (st ++ [.lst (acc.map .int)]) k = some (.int xs[k]) := by rw [get_lst e1]; simp [hlt]
      have e3 : xs.take (k + 1) = xs.take k ++ [xs[k]] := by rw [List.take_add_one]; simp [hlt]
      have hacc : acc.length < 16000000 := by
        rw [e]
        have := List.length_filter_le p (xs.take k)
        rw [List.length_take] at this
        omega
      simp only [lcLoop, e2, lcTurn_nm, t_s1, h2 _ _ (List.getElem_mem hlt), Out.bind_ok, q_lcT]
      by_cases hp : p xs[k] = true
      · have e4 : (env.set i (some (MV.int xs[k])))[i]? = some (some (.int xs[k])) := List.getElem?_set_self hi
        rw [if_pos hp]
        simp only [r_var, e4, vr_some, Out.bind_ok, q_lcE, appendTo_eq, cel_new, List.getElem?_cons_zero]
        rw [appV_ok (by simpa using hacc), Out.bind_ok]
        have e5 : (st ++ [Cell.lst (acc.map .int)]).set st.length (.lst (acc.map .int ++ [.int xs[k]])) = st ++ [.lst ((acc ++ [xs[k]]).map .int)] := by simp
        rw [e5]
        refine ih (k + 1) _ (by omega) ?_
        rw [e3, List.filter_append, e]
        simp [hp]
      · rw [if_neg hp]
        simp only [Out.bind_ok]
        refine ih (k + 1) _ (by omega) ?_
        rw [e3, List.filter_append, e]
        simp [hp]
  simp only [r_lcS, h1, Out.bind_ok, q_lcS, mk_loc, getL_eq, ha, celL_lst, sqV_some, q_lcJ]
  unfold lcRun
  simp only [cnt_lst, getL_eq, ha, celL_lst, lenN_some, List.length_map]
  exact go xs.length 0 [] (by omega) rfl
theorem set_same {st : Store} {n : Nat} {c : Cell} (h : cel st n = some c) : st.set n c = st := by
  apply List.ext_getElem?
  intro i
  by_cases e : n = i
  · subst e
    rw [List.getElem?_set_self (cel_lt h)]
    exact h.symm
  · rw [List.getElem?_set_ne e]
theorem cel_set_if {st : Store} {n m : Nat} {c : Cell} (h : n < st.length) : cel (st.set n c) m = if n = m then some c else cel st m := by
  by_cases e : n = m
  · subst e
    rw [if_pos rfl, cel_set _ _ _ h]
  · rw [if_neg e, cel_set_ne _ _ _ _ e]
/-! ### ascending lists -/
theorem insI_perm (i : Int) : ∀ l : List Int, (insI i l).Perm (i :: l)
  | [] => .refl _
  | j :: r => by
    unfold insI
    by_cases h : i ≤ j
    · rw [if_pos h]
    · rw [if_neg h]
      exact ((insI_perm i r).cons j).trans (.swap i j r)
theorem sortI_perm : ∀ l : List Int, (sortI l).Perm l
  | [] => .refl _
  | i :: r => (insI_perm i (sortI r)).trans ((sortI_perm r).cons i)
theorem insI_asc (i : Int) : ∀ l : List Int, l.Pairwise (· ≤ ·) → (insI i l).Pairwise (· ≤ ·)
  | [], _ => List.pairwise_singleton _ _
  | j :: r, h => by
    unfold insI
    rw [List.pairwise_cons] at h
    by_cases hi : i ≤ j
    · rw [if_pos hi, List.pairwise_cons]
      refine ⟨fun x hx => ?_, List.pairwise_cons.mpr h⟩
      rcases List.mem_cons.mp hx with rfl | hx
      · exact hi
      · exact Int.le_trans hi (h.1 x hx)
    · rw [if_neg hi, List.pairwise_cons]
      refine ⟨fun x hx => ?_, insI_asc i r h.2⟩
      rcases List.mem_cons.mp ((insI_perm i r).mem_iff.mp hx) with rfl | hx
      · omega
      · exact h.1 x hx
theorem sortI_asc : ∀ l : List Int, (sortI l).Pairwise (· ≤ ·)
  | [] => .nil
  | i :: r => insI_asc i _ (sortI_asc r)
theorem sortI_len (l : List Int) : (sortI l).length = l.length := (sortI_perm l).length_eq
theorem mem_sortI {l : List Int} {x : Int} : x ∈ sortI l ↔ x ∈ l := (sortI_perm l).mem_iff
/-! ### dicts -/
theorem take_snoc' {α : Type} {l : List α} {i : Nat} {v : α} (h : l[i]? = some v) : l.take (i + 1) = l.take i ++ [v] := by rw [List.take_add_one, h]; rfl
theorem putD_new {k : Int} {v : MV} {kvs : List (Int × MV)} (h : k ∉ kvs.map (·.1)) : putD k v kvs = kvs ++ [(k, v)] := by
  unfold putD
  rw [if_neg]
  intro g
  rw [List.any_eq_true] at g
  obtain ⟨p, hp, e⟩ := g
  exact h (List.mem_map.mpr ⟨p, hp, of_decide_eq_true e⟩)
theorem valD_map {l : List Int} {f : Int → MV} {k : Int} (h : k ∈ l) : valD (l.map fun x => (x, f x)) k = some (f k) := by
  induction l with
  | nil => cases h
  | cons a r ih =>
    unfold valD
    simp only [List.map_cons, List.find?_cons]
    by_cases e : a = k
    · subst e
      simp
    · simp only [e, decide_false]
      rcases List.mem_cons.mp h with rfl | h
      · exact absurd rfl e
      · exact ih h
theorem okQ_dcF {J : Iter} {l : List Int} {w : List Nat} {turn : MV → Store → Out (MV × MV)} {Q : MV → Store → Prop} {st : Store} (f : Int → MV) (hJ : Walks J (l.map .int) w st) (hn : l.length ≤ 16000000) (hd : l.Nodup)
    (ht : ∀ x s, x ∈ l → Keep w st s → OkQ (fun o s' => o = (.int x, f x) ∧ Keep w s s') (turn (.int x) s))
    (he : ∀ s, Keep w st s → cel s st.length = some (.dct (l.map fun x => (x, f x))) → Q (.loc st.length) s) (hw : ∀ x, x ∈ w → x < st.length) : OkQ Q (dcRun J turn st) := by
  have hlen : (l.map MV.int).length = l.length := List.length_map _
  have go : ∀ (n i : Nat) (s : Store), i + n = l.length → Keep w st s → cel s st.length = some (.dct ((l.take i).map fun x => (x, f x))) → OkQ Q (dcLoop J st.length turn n i s) := by
    intro n
    induction n with
    | zero =>
      intro i s hi k hc
      have e : i = l.length := by omega
      subst e
      have := (hJ.2 s k).2
      rw [hlen] at this
      simp only [dcLoop, this, if_true]
      rw [List.take_length] at hc
      exact he s k hc
    | succ n ih =>
      intro i s hi k hc
      have hlt : i < l.length := by omega
      have hx : l[i]? = some l[i] := List.getElem?_eq_getElem hlt
      have hg : J.get s i = some (.int l[i]) := by rw [(hJ.2 s k).1 i (by omega), List.getElem?_map, hx]; rfl
      obtain ⟨o, s1, g1, g2, g3⟩ := (ht l[i] s (List.getElem_mem hlt) k).get
      subst g2
      have hc1 : cel s1 st.length = some (.dct ((l.take i).map fun x => (x, f x))) := cel_keep g3 hc (fun z => Nat.lt_irrefl _ (hw _ z))
      have hc1' : s1[st.length]? = some (.dct ((l.take i).map fun x => (x, f x))) := hc1
      have hnew : l[i] ∉ ((l.take i).map fun x => (x, f x)).map (·.1) := by
        rw [List.map_map]
        intro z
        obtain ⟨y, hy, e⟩ := List.mem_map.mp z
        obtain ⟨j, hj⟩ := List.mem_iff_getElem?.mp hy
        have hj2 := (List.getElem?_eq_some_iff.mp hj)
        obtain ⟨c, hc⟩ := hj2
        rw [List.length_take] at c
        rw [List.getElem_take] at hc
        have := List.pairwise_iff_getElem.mp hd j i (by omega) hlt (by omega)
        exact this (hc.trans e)
      have hsm : ((l.take i).map fun x => (x, f x)).length < sizeMax := by
        rw [List.length_map, List.length_take]
        unfold sizeMax
        omega
      simp only [dcLoop, hg, g1, Out.bind_ok, putTo, hc1', if_pos hsm]
      refine ih (i + 1) _ (by omega) (Keep.setNew (k.trans g3) (Nat.le_refl _)) ?_
      rw [cel_set _ _ _ (cel_lt hc1), putD_new hnew, take_snoc' hx, List.map_append]
      rfl
  unfold dcRun
  rw [hJ.1, hlen]
  exact go l.length 0 _ (by omega) Keep.new.weak (by simp)
theorem Keep.setIn {w : List Nat} {st : Store} {n : Nat} {c : Cell} (h : n ∈ w) : Keep w st (st.set n c) := Keep.set.sub fun x hx => by
  rw [List.mem_singleton] at hx
  rw [hx]
  exact h
theorem Keep.both {w : List Nat} {a b : Store} (k : Keep w a b) {d : Nat} {c : Cell} (hd : d < a.length) : Keep w (a.set d c) (b.set d c) := ⟨by simpa using k.len, fun n x hn e => by
  have hd2 : d < b.length := Nat.lt_of_lt_of_le hd k.len
  by_cases g : d = n
  · subst g
    rw [List.getElem?_set_self hd] at e
    rw [List.getElem?_set_self hd2]
    exact e
  · rw [List.getElem?_set_ne g] at e
    rw [List.getElem?_set_ne g]
    exact k.get n x hn e⟩
/-- e for v in a list, whatever it holds -/
theorem ev_map {C : Cx} {i : Nat} {it e : ME} {env : Env} {st : Store} {a : Nat} {l : List MV} (f : MV → MV) (h1 : evE C it env st = .ok (.loc a) st) (ha : cel st a = some (.lst l)) (hn : l.length ≤ 16000000)
    (h2 : ∀ x acc, x ∈ l → evE C e (env.set i (some x)) (st ++ [.lst acc]) = .ok (f x) (st ++ [.lst acc])) :
    evE C (.lcS (.nm i) it [] e) env st = .ok (.loc st.length) (st ++ [.lst (l.map f)]) := by
  have go : ∀ (n k : Nat) (acc : List MV), k + n = l.length → acc = (l.take k).map f → lcLoop (.lst a) st.length (lcTurn C (.nm i) [] e env) n k (st ++ [.lst acc]) = .ok (.loc st.length) (st ++ [.lst (l.map f)]) := by
    intro n
    induction n with
    | zero =>
      intro k acc hk e
      have e1 : celL (cel (st ++ [.lst acc]) a) = some l := by rw [cel_app_old ha]; rfl
      have := stop_lst e1
      rw [show l.length = k by omega] at this
      simp only [lcLoop, this, if_true]
      rw [e, show k = l.length by omega, List.take_length]
    | succ n ih =>
      intro k acc hk e
      have hlt : k < l.length := by omega
      have e1 : celL (cel (st ++ [.lst acc]) a) = some l := by rw [cel_app_old ha]; rfl
      have e2 : Iter.get (.lst a) (st ++ [.lst acc]) k = some l[k] := by rw [get_lst e1]; simp [hlt]
      have hacc : acc.length < 16000000 := by
        rw [e, List.length_map, List.length_take]
        omega
      simp only [lcLoop, e2, lcTurn_nm, t_s0, Out.bind_ok, q_lcT, if_true, h2 _ _ (List.getElem_mem hlt), q_lcE, appendTo_eq, cel_new, List.getElem?_cons_zero]
      rw [appV_ok hacc, Out.bind_ok]
      have e5 : (st ++ [Cell.lst acc]).set st.length (.lst (acc ++ [f l[k]])) = st ++ [.lst (acc ++ [f l[k]])] := by simp
      rw [e5]
      refine ih (k + 1) _ (by omega) ?_
      rw [e, List.map_take, List.map_take]
      exact (take_snoc' (l := l.map f) (by simp [hlt])).symm
  simp only [r_lcS, h1, Out.bind_ok, q_lcS, mk_loc, getL_eq, ha, celL_lst, sqV_some, q_lcJ]
  unfold lcRun
  simp only [cnt_lst, getL_eq, ha, celL_lst, lenN_some]
  exact go l.length 0 [] (by omega) rfl
end Mini
end

section
set_option linter.all false
set_option maxRecDepth 100000
/-! MiniModel: what stands in the store of a law's model of a book, and of a book. Core Lean only. -/
namespace Mini
theorem getMap {l : List Int} {i : Nat} {x : MV} (h : (l.map MV.int)[i]? = some x) : ∃ v, l[i]? = some v ∧ x = .int v := by
  rw [List.getElem?_map] at h
  cases e : l[i]? with
  | none => rw [e] at h; cases h
  | some v => rw [e] at h; exact ⟨v, rfl, (Option.some.inj h).symm⟩
theorem take_snoc {α : Type} {l : List α} {i : Nat} {v : α} (h : l[i]? = some v) : l.take (i + 1) = l.take i ++ [v] := by rw [List.take_add_one, h]; rfl
theorem getF {f : Nat → MV} {n i : Nat} (h : i < n) : ((List.range n).map f)[i]? = some (f i) := by simp [h]
theorem getFI {f : Nat → MV} {n : Nat} {x : Int} (h0 : 0 ≤ x) (h : x < n) : atI ((List.range n).map f) x = some (f x.toNat) := by
  rw [atI_pos h0]
  exact getF (by omega)
/-- a place of a list that a function tells is changed -/
theorem setF {f : Nat → MV} {n i : Nat} {v : MV} : ((List.range n).map f).set i v = (List.range n).map fun j => if j = i then v else f j := by
  apply List.ext_getElem?
  intro j
  rw [List.getElem?_set, List.length_map, List.length_range]
  by_cases hj : j < n
  · rw [getF hj]
    by_cases e : i = j
    · subst e
      simp [hj]
    · simp [e, Ne.symm e, hj]
  · have e1 : ((List.range n).map fun j => if j = i then v else f j)[j]? = none := List.getElem?_eq_none (by simp; omega)
    have e2 : ((List.range n).map f)[j]? = none := List.getElem?_eq_none (by simp; omega)
    rw [e1, e2]
    by_cases e : i = j
    · subst e
      simp [hj]
    · simp [e]
theorem snocF {f : Nat → MV} {n : Nat} {v : MV} : (List.range n).map f ++ [v] = (List.range (n + 1)).map fun j => if j = n then v else f j := by
  rw [List.range_succ, List.map_append]
  congr 1
  · apply List.map_congr_left
    intro j hj
    rw [List.mem_range] at hj
    rw [if_neg (by omega)]
  · simp
theorem congF {f g : Nat → MV} {n : Nat} (h : ∀ j, j < n → f j = g j) : (List.range n).map f = (List.range n).map g := List.map_congr_left fun j hj => h j (List.mem_range.mp hj)
/-! ### a law's model -/
inductive Rl where
  | top | base | wl | sl | nl | bl | dl | cl | w (i : Nat) | n (i : Nat) | b (i : Nat) | d (i : Nat) | c (i : Nat)
  deriving DecidableEq
structure Md where
  n : Nat
  base : List Int
  W : Nat → List (Int × Int)
  S : Nat → Int
  N : Nat → List Int
  B : Nat → List Int
  D : Nat → List Int
  C : Nat → List Int
def Live (n : Nat) : Rl → Prop
  | .w i => i ≤ n
  | .n i => i ≤ n
  | .b i => i ≤ n
  | .d i => i ≤ n
  | .c i => i ≤ n
  | _ => True
@[simp] theorem live_top (n : Nat) : Live n .top = True := nr rfl
@[simp] theorem live_base (n : Nat) : Live n .base = True := nr rfl
@[simp] theorem live_wl (n : Nat) : Live n .wl = True := nr rfl
@[simp] theorem live_sl (n : Nat) : Live n .sl = True := nr rfl
@[simp] theorem live_nl (n : Nat) : Live n .nl = True := nr rfl
@[simp] theorem live_bl (n : Nat) : Live n .bl = True := nr rfl
@[simp] theorem live_dl (n : Nat) : Live n .dl = True := nr rfl
@[simp] theorem live_cl (n : Nat) : Live n .cl = True := nr rfl
@[simp] theorem live_w_ (n i : Nat) : Live n (.w i) = (i ≤ n) := nr rfl
@[simp] theorem live_n_ (n i : Nat) : Live n (.n i) = (i ≤ n) := nr rfl
@[simp] theorem live_b_ (n i : Nat) : Live n (.b i) = (i ≤ n) := nr rfl
@[simp] theorem live_d_ (n i : Nat) : Live n (.d i) = (i ≤ n) := nr rfl
@[simp] theorem live_c_ (n i : Nat) : Live n (.c i) = (i ≤ n) := nr rfl
def prs (l : List (Int × Int)) : List MV := l.map fun p => .tup [.int p.1, .int p.2]
def cont (A : Rl → Nat) (M : Md) : Rl → List MV
  | .top => [.loc (A .base), .loc (A .wl), .loc (A .sl), .loc (A .nl), .loc (A .bl), .loc (A .dl), .loc (A .cl)]
  | .base => M.base.map .int
  | .wl => (List.range (M.n + 1)).map fun i => .loc (A (.w i))
  | .sl => (List.range (M.n + 1)).map fun i => .int (M.S i)
  | .nl => (List.range (M.n + 1)).map fun i => .loc (A (.n i))
  | .bl => (List.range (M.n + 1)).map fun i => .loc (A (.b i))
  | .dl => (List.range (M.n + 1)).map fun i => .loc (A (.d i))
  | .cl => (List.range (M.n + 1)).map fun i => .loc (A (.c i))
  | .w i => prs (M.W i)
  | .n i => (M.N i).map .int
  | .b i => (M.B i).map .int
  | .d i => (M.D i).map .int
  | .c i => (M.C i).map .int
structure ModelAt (st : Store) (m : Nat) (A : Rl → Nat) (M : Md) : Prop where
  top : A .top = m
  has : ∀ r, Live M.n r → cel st (A r) = some (.lst (cont A M r))
  inj : ∀ r s, Live M.n r → Live M.n s → A r = A s → r = s
theorem ModelAt.keep {st st' : Store} {m : Nat} {A : Rl → Nat} {M : Md} {w : List Nat} (h : ModelAt st m A M) (k : Keep w st st') (hw : ∀ r, Live M.n r → A r ∉ w) : ModelAt st' m A M :=
  ⟨h.top, fun r hr => cel_keep k (h.has r hr) (hw r hr), h.inj⟩
theorem ModelAt.ext {st st' : Store} {m : Nat} {A : Rl → Nat} {M : Md} (h : ModelAt st m A M) (k : Keep [] st st') : ModelAt st' m A M := h.keep k (by simp)
section
variable {st : Store} {m : Nat} {A : Rl → Nat} {M : Md} (h : ModelAt st m A M)
include h
theorem ModelAt.t : cel st m = some (.lst [.loc (A .base), .loc (A .wl), .loc (A .sl), .loc (A .nl), .loc (A .bl), .loc (A .dl), .loc (A .cl)]) := h.top ▸ h.has .top trivial
theorem ModelAt.base : cel st (A .base) = some (.lst (M.base.map .int)) := h.has .base trivial
theorem ModelAt.wl : cel st (A .wl) = some (.lst ((List.range (M.n + 1)).map fun i => .loc (A (.w i)))) := h.has .wl trivial
theorem ModelAt.sl : cel st (A .sl) = some (.lst ((List.range (M.n + 1)).map fun i => .int (M.S i))) := h.has .sl trivial
theorem ModelAt.nl : cel st (A .nl) = some (.lst ((List.range (M.n + 1)).map fun i => .loc (A (.n i)))) := h.has .nl trivial
theorem ModelAt.bl : cel st (A .bl) = some (.lst ((List.range (M.n + 1)).map fun i => .loc (A (.b i)))) := h.has .bl trivial
theorem ModelAt.dl : cel st (A .dl) = some (.lst ((List.range (M.n + 1)).map fun i => .loc (A (.d i)))) := h.has .dl trivial
theorem ModelAt.cl : cel st (A .cl) = some (.lst ((List.range (M.n + 1)).map fun i => .loc (A (.c i)))) := h.has .cl trivial
theorem ModelAt.wi {i : Nat} (hi : i ≤ M.n) : cel st (A (.w i)) = some (.lst (prs (M.W i))) := h.has (.w i) hi
theorem ModelAt.ni {i : Nat} (hi : i ≤ M.n) : cel st (A (.n i)) = some (.lst ((M.N i).map .int)) := h.has (.n i) hi
theorem ModelAt.bi {i : Nat} (hi : i ≤ M.n) : cel st (A (.b i)) = some (.lst ((M.B i).map .int)) := h.has (.b i) hi
theorem ModelAt.di {i : Nat} (hi : i ≤ M.n) : cel st (A (.d i)) = some (.lst ((M.D i).map .int)) := h.has (.d i) hi
theorem ModelAt.ci {i : Nat} (hi : i ≤ M.n) : cel st (A (.c i)) = some (.lst ((M.C i).map .int)) := h.has (.c i) hi
theorem ModelAt.lt {r : Rl} (hr : Live M.n r) : A r < st.length := cel_lt (h.has r hr)
end
/-! ### a book -/
inductive Rb where
  | bk | base | nums | vals | szs | nds | brs | wrs | v (i : Nat)
  deriving DecidableEq
structure BkS where
  n : Nat
  cells : Nat
  base : List Int
  sz : Nat → Int
  dv : Nat → List (Int × MV)
  Nd : Nat → Nat → Prop
  Br : Nat → Nat → Prop
  Wr : Nat → Nat → Prop
structure BkM where
  nm : Nat → Int
  bm : Nat → Int
  wm : Nat → Int
def LiveB (n : Nat) : Rb → Prop
  | .v i => i ≤ n
  | _ => True
@[simp] theorem liveB_bk (n : Nat) : LiveB n .bk = True := nr rfl
@[simp] theorem liveB_base (n : Nat) : LiveB n .base = True := nr rfl
@[simp] theorem liveB_nums (n : Nat) : LiveB n .nums = True := nr rfl
@[simp] theorem liveB_vals (n : Nat) : LiveB n .vals = True := nr rfl
@[simp] theorem liveB_szs (n : Nat) : LiveB n .szs = True := nr rfl
@[simp] theorem liveB_nds (n : Nat) : LiveB n .nds = True := nr rfl
@[simp] theorem liveB_brs (n : Nat) : LiveB n .brs = True := nr rfl
@[simp] theorem liveB_wrs (n : Nat) : LiveB n .wrs = True := nr rfl
@[simp] theorem liveB_v (n i : Nat) : LiveB n (.v i) = (i ≤ n) := nr rfl
def contB (G : Rb → Nat) (S : BkS) (m : BkM) : Rb → Cell
  | .bk => .ins 0 [(0, .int S.cells), (1, .loc (G .base)), (2, .loc (G .nums)), (3, .loc (G .vals)), (4, .loc (G .szs)), (5, .loc (G .nds)), (6, .loc (G .brs)), (7, .loc (G .wrs))]
  | .base => .lst (S.base.map .int)
  | .nums => .lst ((rgI 1 S.n).map .int)
  | .vals => .lst ((List.range (S.n + 1)).map fun i => .loc (G (.v i)))
  | .szs => .lst ((List.range (S.n + 1)).map fun i => .int (S.sz i))
  | .nds => .lst ((List.range (S.n + 1)).map fun i => .int (m.nm i))
  | .brs => .lst ((List.range (S.n + 1)).map fun i => .int (m.bm i))
  | .wrs => .lst ((List.range S.cells).map fun i => .int (m.wm i))
  | .v i => .dct (S.dv i)
structure BookM (st : Store) (b : Nat) (G : Rb → Nat) (S : BkS) (m : BkM) : Prop where
  top : G .bk = b
  has : ∀ r, LiveB S.n r → cel st (G r) = some (contB G S m r)
  inj : ∀ r s, LiveB S.n r → LiveB S.n s → G r = G s → r = s
  nm : ∀ i, i ≤ S.n → Msk (m.nm i) (S.Nd i)
  bm : ∀ i, i ≤ S.n → Msk (m.bm i) (S.Br i)
  wm : ∀ i, i < S.cells → Msk (m.wm i) (S.Wr i)
def BookAt (st : Store) (b : Nat) (G : Rb → Nat) (S : BkS) : Prop := ∃ m, BookM st b G S m
theorem BookM.keep {st st' : Store} {b : Nat} {G : Rb → Nat} {S : BkS} {m : BkM} {w : List Nat} (h : BookM st b G S m) (k : Keep w st st') (hw : ∀ r, LiveB S.n r → G r ∉ w) : BookM st' b G S m :=
  ⟨h.top, fun r hr => cel_keep k (h.has r hr) (hw r hr), h.inj, h.nm, h.bm, h.wm⟩
theorem BookM.ext {st st' : Store} {b : Nat} {G : Rb → Nat} {S : BkS} {m : BkM} (h : BookM st b G S m) (k : Keep [] st st') : BookM st' b G S m := h.keep k (by simp)
section
variable {st : Store} {b : Nat} {G : Rb → Nat} {S : BkS} {m : BkM} (h : BookM st b G S m)
include h
theorem BookM.t : cel st b = some (.ins 0 [(0, .int S.cells), (1, .loc (G .base)), (2, .loc (G .nums)), (3, .loc (G .vals)), (4, .loc (G .szs)), (5, .loc (G .nds)), (6, .loc (G .brs)), (7, .loc (G .wrs))]) := h.top ▸ h.has .bk trivial
theorem BookM.nums : cel st (G .nums) = some (.lst ((rgI 1 S.n).map .int)) := h.has .nums trivial
theorem BookM.vals : cel st (G .vals) = some (.lst ((List.range (S.n + 1)).map fun i => .loc (G (.v i)))) := h.has .vals trivial
theorem BookM.szs : cel st (G .szs) = some (.lst ((List.range (S.n + 1)).map fun i => .int (S.sz i))) := h.has .szs trivial
theorem BookM.nds : cel st (G .nds) = some (.lst ((List.range (S.n + 1)).map fun i => .int (m.nm i))) := h.has .nds trivial
theorem BookM.brs : cel st (G .brs) = some (.lst ((List.range (S.n + 1)).map fun i => .int (m.bm i))) := h.has .brs trivial
theorem BookM.wrs : cel st (G .wrs) = some (.lst ((List.range S.cells).map fun i => .int (m.wm i))) := h.has .wrs trivial
theorem BookM.lt {r : Rb} (hr : LiveB S.n r) : G r < st.length := cel_lt (h.has r hr)
end
section
variable {st : Store} {b : Nat} {G : Rb → Nat} {S : BkS} {m : BkM}
theorem BookM.eqs (h : BookM st b G S m) (r s : Rb) (hr : LiveB S.n r) (hs : LiveB S.n s) : (G r = G s) = (r = s) := propext ⟨h.inj r s hr hs, fun e => by rw [e]⟩
theorem BookM.lts (h : BookM st b G S m) (r : Rb) (hr : LiveB S.n r) : G r < st.length := h.lt hr
/-- another mask of bars -/
theorem BookM.setBr (h : BookM st b G S m) {o : Nat} {v : Int} {Q : Nat → Prop} (hv : Msk v Q) : BookM (st.set (G .brs) (.lst ((List.range (S.n + 1)).map fun j => if j = o then .int v else .int (m.bm j)))) b G { S with Br := fun i => if i = o then Q else S.Br i } { m with bm := fun i => if i = o then v else m.bm i } := by
  refine ⟨h.top, fun r hr => ?_, h.inj, h.nm, fun i hi => ?_, h.wm⟩
  · rw [cel_set_if (h.lts .brs trivial)]
    simp only [h.eqs .brs r trivial hr]
    cases r <;> simp only [reduceCtorEq, if_true, if_false, h.has _ hr, contB]
    congr 2
    exact congF fun j _ => by
      by_cases e : j = o
      · rw [if_pos e, if_pos e]
      · rw [if_neg e, if_neg e]
  · by_cases e : i = o
    · simp only [if_pos e]
      exact hv
    · simp only [if_neg e]
      exact h.bm i hi
/-- another mask of writers -/
theorem BookM.setWr (h : BookM st b G S m) {o : Nat} {v : Int} {Q : Nat → Prop} (hv : Msk v Q) : BookM (st.set (G .wrs) (.lst ((List.range S.cells).map fun j => if j = o then .int v else .int (m.wm j)))) b G { S with Wr := fun i => if i = o then Q else S.Wr i } { m with wm := fun i => if i = o then v else m.wm i } := by
  refine ⟨h.top, fun r hr => ?_, h.inj, h.nm, h.bm, fun i hi => ?_⟩
  · rw [cel_set_if (h.lts .wrs trivial)]
    simp only [h.eqs .wrs r trivial hr]
    cases r <;> simp only [reduceCtorEq, if_true, if_false, h.has _ hr, contB]
    congr 2
    exact congF fun j _ => by
      by_cases e : j = o
      · rw [if_pos e, if_pos e]
      · rw [if_neg e, if_neg e]
  · by_cases e : i = o
    · simp only [if_pos e]
      exact hv
    · simp only [if_neg e]
      exact h.wm i hi
/-- the same told otherwise -/
theorem BookM.congr (h : BookM st b G S m) {Nd Br Wr : Nat → Nat → Prop} (hN : ∀ i j, i ≤ S.n → (S.Nd i j ↔ Nd i j)) (hB : ∀ i j, i ≤ S.n → (S.Br i j ↔ Br i j)) (hW : ∀ i j, i < S.cells → (S.Wr i j ↔ Wr i j)) : BookM st b G { S with Nd := Nd, Br := Br, Wr := Wr } m :=
  ⟨h.top, fun r hr => by
    have := h.has r hr
    cases r <;> exact this, h.inj, fun i hi => (h.nm i hi).congr fun j => hN i j hi, fun i hi => (h.bm i hi).congr fun j => hB i j hi, fun i hi => (h.wm i hi).congr fun j => hW i j hi⟩
def BkS.put (S : BkS) (sz : Int) (dv : List (Int × MV)) (P NB : Nat → Prop) : BkS :=
  { S with n := S.n + 1, sz := fun i => if i = S.n + 1 then sz else S.sz i, dv := fun i => if i = S.n + 1 then dv else S.dv i, Nd := fun i => if i = S.n + 1 then P else S.Nd i, Br := fun i => if i = S.n + 1 then NB else S.Br i }
def BkM.put (m : BkM) (n : Nat) (nd bd : Int) : BkM := { m with nm := fun i => if i = n + 1 then nd else m.nm i, bm := fun i => if i = n + 1 then bd else m.bm i }
/-- a patch's five rows are put behind -/
theorem BookM.put (h : BookM st b G S m) {d : Nat} {sz nd bd : Int} {dv : List (Int × MV)} {P NB : Nat → Prop} (hd : cel st d = some (.dct dv)) (hdn : ∀ r, LiveB S.n r → G r ≠ d) (hP : Msk nd P) (hN : Msk bd NB) :
    BookM (((((st.set (G .nums) (.lst ((rgI 1 S.n).map .int ++ [.int (S.n + 1)]))).set (G .vals) (.lst (((List.range (S.n + 1)).map fun i => .loc (G (.v i))) ++ [.loc d]))).set (G .szs) (.lst (((List.range (S.n + 1)).map fun i => .int (S.sz i)) ++ [.int sz]))).set
      (G .nds) (.lst (((List.range (S.n + 1)).map fun i => .int (m.nm i)) ++ [.int nd]))).set (G .brs) (.lst (((List.range (S.n + 1)).map fun i => .int (m.bm i)) ++ [.int bd]))) b (fun r => if r = .v (S.n + 1) then d else G r) (S.put sz dv P NB) (m.put S.n nd bd) := by
  have hl := h.lts
  have he := h.eqs
  refine ⟨by simpa using h.top, fun r hr => ?_, fun r s hr hs e => ?_, fun i hi => ?_, fun i hi => ?_, h.wm⟩
  · by_cases e : r = .v (S.n + 1)
    · subst e
      have n1 := hdn .nums trivial
      have n2 := hdn .vals trivial
      have n3 := hdn .szs trivial
      have n4 := hdn .nds trivial
      have n5 := hdn .brs trivial
      simp only [if_true]
      rw [cel_set_ne _ _ _ _ n5, cel_set_ne _ _ _ _ n4, cel_set_ne _ _ _ _ n3, cel_set_ne _ _ _ _ n2, cel_set_ne _ _ _ _ n1, hd]
      simp [contB, BkS.put]
    · have hr' : LiveB S.n r := by
        cases r with
        | v i =>
          have h1 : i ≤ S.n + 1 := hr
          have h2 : i ≠ S.n + 1 := fun z => e (by rw [z])
          show i ≤ S.n
          omega
        | _ => trivial
      simp only [if_neg e]
      rw [cel_set_if (by simpa using hl .brs trivial), cel_set_if (by simpa using hl .nds trivial), cel_set_if (by simpa using hl .szs trivial), cel_set_if (by simpa using hl .vals trivial), cel_set_if (by simpa using hl .nums trivial)]
      simp only [he .brs r trivial hr', he .nds r trivial hr', he .szs r trivial hr', he .vals r trivial hr', he .nums r trivial hr', h.has r hr']
      cases r with
      | nums =>
        simp only [reduceCtorEq, if_true, if_false, contB, BkS.put]
        congr 2
        unfold rgI
        rw [List.range_succ, List.map_append, List.map_append]
        simp
        omega
      | vals =>
        simp only [reduceCtorEq, if_true, if_false, contB, BkS.put]
        rw [snocF]
        congr 2
        refine congF fun j _ => ?_
        by_cases e : j = S.n + 1 <;> simp [e]
      | szs =>
        simp only [reduceCtorEq, if_true, if_false, contB, BkS.put]
        rw [snocF]
        congr 2
        refine congF fun j _ => ?_
        by_cases e : j = S.n + 1 <;> simp [e]
      | nds =>
        simp only [reduceCtorEq, if_true, if_false, contB, BkS.put, BkM.put]
        rw [snocF]
        congr 2
        refine congF fun j _ => ?_
        by_cases e : j = S.n + 1 <;> simp [e]
      | brs =>
        simp only [reduceCtorEq, if_true, if_false, contB, BkS.put, BkM.put]
        rw [snocF]
        congr 2
        refine congF fun j _ => ?_
        by_cases e : j = S.n + 1 <;> simp [e]
      | v i =>
        have h2 : i ≠ S.n + 1 := fun z => e (by rw [z])
        simp [contB, BkS.put, h2]
      | _ => simp [contB, BkS.put, BkM.put]
  · have low : ∀ r, LiveB (S.n + 1) r → r ≠ .v (S.n + 1) → LiveB S.n r := fun r hr e => by
      cases r with
      | v i =>
        have h1 : i ≤ S.n + 1 := hr
        have h2 : i ≠ S.n + 1 := fun z => e (by rw [z])
        show i ≤ S.n
        omega
      | _ => trivial
    by_cases e1 : r = .v (S.n + 1) <;> by_cases e2 : s = .v (S.n + 1)
    · rw [e1, e2]
    · simp only [if_pos e1, if_neg e2] at e
      exact absurd e.symm (hdn s (low s hs e2))
    · simp only [if_neg e1, if_pos e2] at e
      exact absurd e (hdn r (low r hr e1))
    · simp only [if_neg e1, if_neg e2] at e
      exact h.inj r s (low r hr e1) (low s hs e2) e
  · by_cases e : i = S.n + 1
    · simp only [BkM.put, BkS.put, if_pos e]
      exact hP
    · have h1 : i ≤ S.n + 1 := hi
      simp only [BkM.put, BkS.put, if_neg e]
      exact h.nm i (by omega)
  · by_cases e : i = S.n + 1
    · simp only [BkM.put, BkS.put, if_pos e]
      exact hN
    · have h1 : i ≤ S.n + 1 := hi
      simp only [BkM.put, BkS.put, if_neg e]
      exact h.bm i (by omega)
end
section
variable {st : Store} {b : Nat} {G : Rb → Nat} {S : BkS} {m : BkM}
theorem BookM.setBr' (h : BookM st b G S m) {o : Nat} {v : Int} {Q : Nat → Prop} (hv : Msk v Q) : BookM (st.set (G .brs) (.lst (((List.range (S.n + 1)).map fun j => .int (m.bm j)).set o (.int v)))) b G { S with Br := fun i => if i = o then Q else S.Br i } { m with bm := fun i => if i = o then v else m.bm i } := by
  rw [setF]
  exact h.setBr hv
theorem BookM.setWr' (h : BookM st b G S m) {o : Nat} {v : Int} {Q : Nat → Prop} (hv : Msk v Q) : BookM (st.set (G .wrs) (.lst (((List.range S.cells).map fun j => .int (m.wm j)).set o (.int v)))) b G { S with Wr := fun i => if i = o then Q else S.Wr i } { m with wm := fun i => if i = o then v else m.wm i } := by
  rw [setF]
  exact h.setWr hv
end
/-! ### a model grows -/
def Md.put (M : Md) (ws : List (Int × Int)) (sz : Int) (N B D C : List Int) : Md :=
  { n := M.n + 1, base := M.base, W := fun i => if i = M.n + 1 then ws else M.W i, S := fun i => if i = M.n + 1 then sz else M.S i, N := fun i => if i = M.n + 1 then N else M.N i, B := fun i => if i = M.n + 1 then B else M.B i, D := fun i => if i = M.n + 1 then D else M.D i, C := fun i => if i = M.n + 1 then C else M.C i }
def newA (A : Rl → Nat) (n w nd ba d c : Nat) : Rl → Nat
  | .w i => if i = n + 1 then w else A (.w i)
  | .n i => if i = n + 1 then nd else A (.n i)
  | .b i => if i = n + 1 then ba else A (.b i)
  | .d i => if i = n + 1 then d else A (.d i)
  | .c i => if i = n + 1 then c else A (.c i)
  | r => A r
theorem newA_cases {A : Rl → Nat} {n w nd ba d c : Nat} {r : Rl} (h : Live (n + 1) r) : (Live n r ∧ newA A n w nd ba d c r = A r) ∨ (r = .w (n + 1) ∧ newA A n w nd ba d c r = w) ∨ (r = .n (n + 1) ∧ newA A n w nd ba d c r = nd) ∨ (r = .b (n + 1) ∧ newA A n w nd ba d c r = ba) ∨ (r = .d (n + 1) ∧ newA A n w nd ba d c r = d) ∨ (r = .c (n + 1) ∧ newA A n w nd ba d c r = c) := by
  have lo : ∀ i, i ≤ n + 1 → i = n + 1 ∨ (i ≤ n ∧ i ≠ n + 1) := fun i h => by omega
  cases r with
  | w i =>
    rcases lo i h with e | ⟨h1, h2⟩
    · subst e; exact .inr (.inl ⟨rfl, if_pos rfl⟩)
    · exact .inl ⟨h1, if_neg h2⟩
  | n i =>
    rcases lo i h with e | ⟨h1, h2⟩
    · subst e; exact .inr (.inr (.inl ⟨rfl, if_pos rfl⟩))
    · exact .inl ⟨h1, if_neg h2⟩
  | b i =>
    rcases lo i h with e | ⟨h1, h2⟩
    · subst e; exact .inr (.inr (.inr (.inl ⟨rfl, if_pos rfl⟩)))
    · exact .inl ⟨h1, if_neg h2⟩
  | d i =>
    rcases lo i h with e | ⟨h1, h2⟩
    · subst e; exact .inr (.inr (.inr (.inr (.inl ⟨rfl, if_pos rfl⟩))))
    · exact .inl ⟨h1, if_neg h2⟩
  | c i =>
    rcases lo i h with e | ⟨h1, h2⟩
    · subst e; exact .inr (.inr (.inr (.inr (.inr ⟨rfl, if_pos rfl⟩))))
    · exact .inl ⟨h1, if_neg h2⟩
  | _ => exact .inl ⟨trivial, rfl⟩
section
variable {st : Store} {m : Nat} {A : Rl → Nat} {M : Md}
theorem ModelAt.eqs (h : ModelAt st m A M) (r s : Rl) (hr : Live M.n r) (hs : Live M.n s) : (A r = A s) = (r = s) := propext ⟨h.inj r s hr hs, fun e => by rw [e]⟩
theorem ModelAt.lts (h : ModelAt st m A M) (r : Rl) (hr : Live M.n r) : A r < st.length := h.lt hr
/-- other bars -/
theorem ModelAt.setB (h : ModelAt st m A M) {i : Nat} (hi : i ≤ M.n) {l : List Int} : ModelAt (st.set (A (.b i)) (.lst (l.map .int))) m A { M with B := fun j => if j = i then l else M.B j } := by
  refine ⟨h.top, fun r hr => ?_, h.inj⟩
  rw [cel_set_if (h.lts (.b i) hi)]
  simp only [h.eqs (.b i) r hi hr, h.has r hr]
  cases r with
  | b j =>
    by_cases e : j = i
    · subst e
      simp [cont]
    · simp [cont, e, Ne.symm e]
  | _ => simp [cont]
theorem ModelAt.put (h : ModelAt st m A M) {w nd ba d c : Nat} {ws : List (Int × Int)} {sz : Int} {N B D C : List Int} (hw : cel st w = some (.lst (prs ws))) (hN : cel st nd = some (.lst (N.map .int))) (hB : cel st ba = some (.lst (B.map .int))) (hD : cel st d = some (.lst (D.map .int))) (hC : cel st c = some (.lst (C.map .int)))
    (hx : ∀ x, x ∈ [w, nd, ba, d, c] → ∀ r, Live M.n r → A r ≠ x) (hnd : [w, nd, ba, d, c].Nodup) :
    ModelAt ((((((st.set (A .wl) (.lst (((List.range (M.n + 1)).map fun i => .loc (A (.w i))) ++ [.loc w]))).set (A .sl) (.lst (((List.range (M.n + 1)).map fun i => .int (M.S i)) ++ [.int sz]))).set (A .nl) (.lst (((List.range (M.n + 1)).map fun i => .loc (A (.n i))) ++ [.loc nd]))).set
      (A .bl) (.lst (((List.range (M.n + 1)).map fun i => .loc (A (.b i))) ++ [.loc ba]))).set (A .dl) (.lst (((List.range (M.n + 1)).map fun i => .loc (A (.d i))) ++ [.loc d]))).set (A .cl) (.lst (((List.range (M.n + 1)).map fun i => .loc (A (.c i))) ++ [.loc c]))) m (newA A M.n w nd ba d c) (M.put ws sz N B D C) := by
  have hl := h.lts
  have he := h.eqs
  have new : ∀ x c0, x ∈ [w, nd, ba, d, c] → cel st x = some c0 → cel ((((((st.set (A .wl) (.lst (((List.range (M.n + 1)).map fun i => .loc (A (.w i))) ++ [.loc w]))).set (A .sl) (.lst (((List.range (M.n + 1)).map fun i => .int (M.S i)) ++ [.int sz]))).set (A .nl) (.lst (((List.range (M.n + 1)).map fun i => .loc (A (.n i))) ++ [.loc nd]))).set
      (A .bl) (.lst (((List.range (M.n + 1)).map fun i => .loc (A (.b i))) ++ [.loc ba]))).set (A .dl) (.lst (((List.range (M.n + 1)).map fun i => .loc (A (.d i))) ++ [.loc d]))).set (A .cl) (.lst (((List.range (M.n + 1)).map fun i => .loc (A (.c i))) ++ [.loc c]))) x = some c0 := fun x c0 hm e => by
    rw [cel_set_ne _ _ _ _ (hx x hm .cl trivial), cel_set_ne _ _ _ _ (hx x hm .dl trivial), cel_set_ne _ _ _ _ (hx x hm .bl trivial), cel_set_ne _ _ _ _ (hx x hm .nl trivial), cel_set_ne _ _ _ _ (hx x hm .sl trivial), cel_set_ne _ _ _ _ (hx x hm .wl trivial)]
    exact e
  refine ⟨h.top, fun r hr => ?_, fun r s hr hs e => ?_⟩
  · rcases newA_cases (A := A) (w := w) (nd := nd) (ba := ba) (d := d) (c := c) hr with ⟨hr', e⟩ | ⟨rfl, e⟩ | ⟨rfl, e⟩ | ⟨rfl, e⟩ | ⟨rfl, e⟩ | ⟨rfl, e⟩
    · rw [e, cel_set_if (by simpa using hl .cl trivial), cel_set_if (by simpa using hl .dl trivial), cel_set_if (by simpa using hl .bl trivial), cel_set_if (by simpa using hl .nl trivial), cel_set_if (by simpa using hl .sl trivial), cel_set_if (by simpa using hl .wl trivial)]
      simp only [he .wl r trivial hr', he .sl r trivial hr', he .nl r trivial hr', he .bl r trivial hr', he .dl r trivial hr', he .cl r trivial hr', h.has r hr']
      have ne : ∀ i, i ≤ M.n → i ≠ M.n + 1 := fun i h => by omega
      cases r with
      | wl =>
        simp only [reduceCtorEq, if_true, if_false, cont, Md.put, snocF]
        congr 2
        exact congF fun j _ => by by_cases e : j = M.n + 1 <;> simp [newA, e]
      | sl =>
        simp only [reduceCtorEq, if_true, if_false, cont, Md.put, snocF]
        congr 2
        exact congF fun j _ => by by_cases e : j = M.n + 1 <;> simp [e]
      | nl =>
        simp only [reduceCtorEq, if_true, if_false, cont, Md.put, snocF]
        congr 2
        exact congF fun j _ => by by_cases e : j = M.n + 1 <;> simp [newA, e]
      | bl =>
        simp only [reduceCtorEq, if_true, if_false, cont, Md.put, snocF]
        congr 2
        exact congF fun j _ => by by_cases e : j = M.n + 1 <;> simp [newA, e]
      | dl =>
        simp only [reduceCtorEq, if_true, if_false, cont, Md.put, snocF]
        congr 2
        exact congF fun j _ => by by_cases e : j = M.n + 1 <;> simp [newA, e]
      | cl =>
        simp only [reduceCtorEq, if_true, if_false, cont, Md.put, snocF]
        congr 2
        exact congF fun j _ => by by_cases e : j = M.n + 1 <;> simp [newA, e]
      | top => simp [cont, newA]
      | base => simp [cont, Md.put]
      | w i => simp [cont, Md.put, ne i hr']
      | n i => simp [cont, Md.put, ne i hr']
      | b i => simp [cont, Md.put, ne i hr']
      | d i => simp [cont, Md.put, ne i hr']
      | c i => simp [cont, Md.put, ne i hr']
    · rw [e, new w _ (by simp) hw]; simp [cont, Md.put]
    · rw [e, new nd _ (by simp) hN]; simp [cont, Md.put]
    · rw [e, new ba _ (by simp) hB]; simp [cont, Md.put]
    · rw [e, new d _ (by simp) hD]; simp [cont, Md.put]
    · rw [e, new c _ (by simp) hC]; simp [cont, Md.put]
  · simp only [List.nodup_cons, List.mem_cons, List.not_mem_nil, or_false, not_or, not_false_eq_true, List.nodup_nil, and_true] at hnd
    obtain ⟨⟨h12, h13, h14, h15⟩, ⟨h23, h24, h25⟩, ⟨h34, h35⟩, h45⟩ := hnd
    have o1 := hx w (by simp)
    have o2 := hx nd (by simp)
    have o3 := hx ba (by simp)
    have o4 := hx d (by simp)
    have o5 := hx c (by simp)
    rcases newA_cases (A := A) (w := w) (nd := nd) (ba := ba) (d := d) (c := c) hr with ⟨hr', e1⟩ | ⟨r1, e1⟩ | ⟨r1, e1⟩ | ⟨r1, e1⟩ | ⟨r1, e1⟩ | ⟨r1, e1⟩ <;> rcases newA_cases (A := A) (w := w) (nd := nd) (ba := ba) (d := d) (c := c) hs with ⟨hs', e2⟩ | ⟨r2, e2⟩ | ⟨r2, e2⟩ | ⟨r2, e2⟩ | ⟨r2, e2⟩ | ⟨r2, e2⟩ <;> rw [e1, e2] at e <;>
      first
        | exact h.inj r s hr' hs' e
        | (rw [r1, r2]; done)
        | exact absurd e (by assumption)
        | exact absurd e.symm (by assumption)
        | exact absurd e (o1 r hr')
        | exact absurd e (o2 r hr')
        | exact absurd e (o3 r hr')
        | exact absurd e (o4 r hr')
        | exact absurd e (o5 r hr')
        | exact absurd e.symm (o1 s hs')
        | exact absurd e.symm (o2 s hs')
        | exact absurd e.symm (o3 s hs')
        | exact absurd e.symm (o4 s hs')
        | exact absurd e.symm (o5 s hs')
def foot (A : Rl → Nat) (n : Nat) : List Nat := [A .wl, A .sl, A .nl, A .bl, A .dl, A .cl] ++ (List.range (n + 1)).map fun i => A (.b i)
theorem foot_live {A : Rl → Nat} {n x : Nat} (h : x ∈ foot A n) : ∃ r, Live n r ∧ x = A r := by
  unfold foot at h
  rcases List.mem_append.mp h with h | h
  · simp only [List.mem_cons, List.not_mem_nil, or_false] at h
    rcases h with h | h | h | h | h | h
    · exact ⟨.wl, trivial, h⟩
    · exact ⟨.sl, trivial, h⟩
    · exact ⟨.nl, trivial, h⟩
    · exact ⟨.bl, trivial, h⟩
    · exact ⟨.dl, trivial, h⟩
    · exact ⟨.cl, trivial, h⟩
  · obtain ⟨i, hi, rfl⟩ := List.mem_map.mp h
    rw [List.mem_range] at hi
    exact ⟨.b i, by show i ≤ n; omega, rfl⟩
end
end Mini
end

section
set_option linter.all false
set_option maxRecDepth 100000
set_option maxHeartbeats 2000000
namespace Mini
-- 0 Book___init__: 0:self 1:base
def d_Book___init__ : MDef := ⟨2, 2,
  [
    .ite (.op2 .eq (.prim .len [(.var 1)]) (.con (.int 0)))
      [
        .never]
      [],
    .setAt 0 0 (.var 0) (.prim .len [(.var 1)]),
    .setAt 0 1 (.var 0) (.prim .list [(.var 1)]),
    .setAt 0 2 (.var 0) (.lst []),
    .setAt 0 3 (.var 0) (.lst [.dct0]),
    .setAt 0 4 (.var 0) (.lst [(.con (.int 0))]),
    .setAt 0 5 (.var 0) (.lst [(.con (.int 0))]),
    .setAt 0 6 (.var 0) (.lst [(.con (.int 0))]),
    .setAt 0 7 (.var 0) (.op2 .mul (.lst [(.con (.int 0))]) (.att 0 0 (.var 0)))]⟩
-- 1 Book_make_patch: 0:self 1:writes 2:requires 3:conflicts 4:size 5:values 6:other 7:number 8:needs 9:bars 10:first 11:others 12:cell
def d_Book_make_patch : MDef := ⟨5, 13,
  [
    .asg (.nm 5) (.call 9 [(.var 1), (.att 0 0 (.var 0))]),
    .loop (.nm 6) (.seq (.var 2))
      [
        .expr (.mcl 0 4 (.var 0) [(.var 6)])] [6],
    .loop (.nm 6) (.seq (.var 3))
      [
        .expr (.mcl 0 4 (.var 0) [(.var 6)])] [6],
    .ite (.op2 .lt (.var 4) (.con (.int 0)))
      [
        .never]
      [],
    .asg (.nm 7) (.op2 .add (.prim .len [(.att 0 2 (.var 0))]) (.con (.int 1))),
    .asg (.nm 8) (.mcl 0 5 (.var 0) [(.var 2)]),
    .loop (.nm 6) (.seq (.var 2))
      [
        .asg (.nm 8) (.op2 .bor (.var 8) (.op2 .ix (.att 0 5 (.var 0)) (.var 6)))] [6],
    .asg (.nm 9) (.mcl 0 2 (.var 0) [(.var 5), (.var 8), (.mcl 0 5 (.var 0) [(.var 3)])]),
    .ite (.op2 .ne (.op2 .band (.var 9) (.var 8)) (.con (.int 0)))
      [
        .asg (.nm 10) (.call 8 [(.op2 .band (.var 9) (.var 8))]),
        .asg (.nm 11) (.op2 .band (.op2 .ix (.att 0 6 (.var 0)) (.var 10)) (.var 8)),
        .never]
      [],
    .expr (.meth .append (.att 0 2 (.var 0)) [(.var 7)]),
    .expr (.meth .append (.att 0 3 (.var 0)) [(.var 5)]),
    .expr (.meth .append (.att 0 4 (.var 0)) [(.ite (.op2 .gt (.var 4) (.con (.int 0))) (.var 4) (.prim .len [(.var 5)]))]),
    .expr (.meth .append (.att 0 5 (.var 0)) [(.var 8)]),
    .expr (.meth .append (.att 0 6 (.var 0)) [(.var 9)]),
    .loop (.nm 6) (.seq (.mcl 0 3 (.var 0) [(.var 9)]))
      [
        .setIx (.att 0 6 (.var 0)) (.var 6) (.op2 .bor (.op2 .ix (.att 0 6 (.var 0)) (.var 6)) (.op2 .shl (.con (.int 1)) (.var 7)))] [6],
    .lock 5 (.loop (.nm 12) (.keys 5)
      [
        .setIx (.att 0 7 (.var 0)) (.var 12) (.op2 .bor (.op2 .ix (.att 0 7 (.var 0)) (.var 12)) (.op2 .shl (.con (.int 1)) (.var 7)))] [12]),
    .ret (.var 7)]⟩
-- 2 Book__new_bars: 0:self 1:values 2:needs 3:direct 4:hit 5:cell 6:other 7:bars
def d_Book__new_bars : MDef := ⟨4, 8,
  [
    .asg (.nm 4) (.var 3),
    .lock 1 (.loop (.nm 5) (.keys 1)
      [
        .asg (.nm 4) (.op2 .bor (.var 4) (.op2 .band (.op2 .ix (.att 0 7 (.var 0)) (.var 5)) (.prim .inv [(.var 2)])))] [5]),
    .loop (.nm 6) (.seq (.mcl 0 3 (.var 0) [(.var 2)]))
      [
        .asg (.nm 4) (.op2 .bor (.var 4) (.op2 .ix (.att 0 6 (.var 0)) (.var 6)))] [6],
    .asg (.nm 7) (.var 4),
    .loop (.nm 6) (.seq (.att 0 2 (.var 0)))
      [
        .ite (.op2 .ne (.op2 .band (.op2 .ix (.att 0 5 (.var 0)) (.var 6)) (.var 4)) (.con (.int 0)))
          [
            .asg (.nm 7) (.op2 .bor (.var 7) (.op2 .shl (.con (.int 1)) (.var 6)))]
          []] [6],
    .ret (.var 7)]⟩
-- 3 Book__members: 0:self 1:mask 2:number
def d_Book__members : MDef := ⟨2, 3,
  [
    .ret (.prim .tuple [(.lcS (.nm 2) (.att 0 2 (.var 0)) [(.op2 .eq (.op2 .band (.op2 .shr (.var 1) (.var 2)) (.con (.int 1))) (.con (.int 1)))] (.var 2))])]⟩
-- 4 Book_check_number: 0:self 1:number
def d_Book_check_number : MDef := ⟨2, 2,
  [
    .ite (.nt (.chain .le .le (.con (.int 1)) (.var 1) (.prim .len [(.att 0 2 (.var 0))])))
      [
        .never]
      []]⟩
-- 5 Book_mask_of: 0:self 1:numbers 2:mask 3:number
def d_Book_mask_of : MDef := ⟨2, 4,
  [
    .asg (.nm 2) (.con (.int 0)),
    .loop (.nm 3) (.seq (.var 1))
      [
        .asg (.nm 2) (.op2 .bor (.var 2) (.op2 .shl (.con (.int 1)) (.var 3)))] [3],
    .ret (.var 2)]⟩
-- 6 Book_holds: 0:self 1:numbers 2:mask 3:previous 4:number 5:needs
def d_Book_holds : MDef := ⟨2, 6,
  [
    .asg (.nm 2) (.con (.int 0)),
    .asg (.nm 3) (.con (.int 0)),
    .loop (.nm 4) (.seq (.var 1))
      [
        .ite (.nt (.chain .lt .le (.var 3) (.var 4) (.prim .len [(.att 0 2 (.var 0))])))
          [
            .ret (.con (.bl false))]
          [],
        .asg (.nm 5) (.op2 .ix (.att 0 5 (.var 0)) (.var 4)),
        .ite (.or (.op2 .ne (.op2 .band (.var 5) (.var 2)) (.var 5)) (.op2 .ne (.op2 .band (.op2 .ix (.att 0 6 (.var 0)) (.var 4)) (.var 2)) (.con (.int 0))))
          [
            .ret (.con (.bl false))]
          [],
        .asg (.nm 2) (.op2 .bor (.var 2) (.op2 .shl (.con (.int 1)) (.var 4))),
        .asg (.nm 3) (.var 4)] [4, 5],
    .ret (.con (.bl true))]⟩
-- 7 Book___contains__: 0:self 1:version
def d_Book___contains__ : MDef := ⟨2, 2,
  [
    .ret (.mcl 0 6 (.var 0) [(.var 1)])]⟩
-- 8 least_number: 0:mask
def d_least_number : MDef := ⟨1, 1,
  [
    .ret (.op2 .sub (.meth .bitLen (.op2 .band (.var 0) (.prim .neg [(.var 0)])) []) (.con (.int 1)))]⟩
-- 9 checked_writes: 0:writes 1:cells 2:values 3:cell 4:value
def d_checked_writes : MDef := ⟨2, 5,
  [
    .ite (.op2 .eq (.prim .len [(.var 0)]) (.con (.int 0)))
      [
        .never]
      [],
    .asg (.nm 2) .dct0,
    .loop (.tp [3, 4]) (.seq (.var 0))
      [
        .ite (.nt (.chain .le .lt (.con (.int 0)) (.var 3) (.var 1)))
          [
            .never]
          [],
        .ite (.op2 .inn (.var 3) (.var 2))
          [
            .never]
          [],
        .setIx (.var 2) (.var 3) (.var 4)] [4],
    .ret (.dcS (.nm 3) (.prim .sorted [(.var 2)]) (.var 3) (.op2 .ix (.var 2) (.var 3)))]⟩
-- 10 _law_source: 0:_law_script 1:_law_place 2:_law_cell
def d__law_source : MDef := ⟨2, 3,
  [
    .asg (.nm 2) (.ite (.op2 .lt (.var 1) (.prim .len [(.var 0)])) (.prim .abs [(.prim .int [(.op2 .ix (.var 0) (.var 1))])]) (.op2 .add (.op2 .add (.con (.int 7)) (.op2 .mul (.con (.int 31)) (.var 1))) (.op2 .mul (.con (.int 1009)) (.prim .len [(.var 0)])))),
    .ret (.lst [(.var 2), (.ite (.op2 .ge (.var 2) (.op2 .pow (.con (.int 10)) (.con (.int 18)))) (.var 2) (.con (.int 0))), (.con (.int 0))])]⟩
-- 11 _law_draw: 0:_law_source_here 1:_law_many 2:_law_told 3:_law_mixed
def d__law_draw : MDef := ⟨2, 4,
  [
    .setIx (.var 0) (.con (.int 2)) (.op2 .add (.op2 .ix (.var 0) (.con (.int 2))) (.con (.int 1))),
    .ite (.op2 .gt (.op2 .ix (.var 0) (.con (.int 1))) (.con (.int 0)))
      [
        .asg (.nm 2) (.op2 .mod (.prim .int [(.op2 .ix (.var 0) (.con (.int 1)))]) (.var 1)),
        .setIx (.var 0) (.con (.int 1)) (.op2 .fdiv (.op2 .ix (.var 0) (.con (.int 1))) (.var 1)),
        .ret (.var 2)]
      [],
    .asg (.nm 3) (.op2 .mod (.prim .int [(.op2 .add (.op2 .add (.op2 .ix (.var 0) (.con (.int 0))) (.op2 .mul (.con (.int 7919)) (.op2 .ix (.var 0) (.con (.int 2))))) (.con (.int 13)))]) (.con (.int 2147483647))),
    .asg (.nm 3) (.op2 .mod (.prim .int [(.op2 .mul (.var 3) (.op2 .add (.var 3) (.con (.int 48271))))]) (.con (.int 2147483629))),
    .asg (.nm 3) (.op2 .mod (.prim .int [(.op2 .add (.op2 .mul (.var 3) (.op2 .add (.var 3) (.con (.int 69621)))) (.op2 .mul (.con (.int 31)) (.op2 .ix (.var 0) (.con (.int 2)))))]) (.con (.int 2147483647))),
    .ret (.op2 .mod (.prim .int [(.op2 .fdiv (.var 3) (.con (.int 9)))]) (.var 1))]⟩
-- 12 _law_needs: 0:_law_model_here 1:_law_demands 2:_law_other 3:_law_one
def d__law_needs : MDef := ⟨2, 4,
  [
    .ret (.lcR2 (.nm 2) (.con (.int 1)) (.prim .len [(.op2 .ix (.var 0) (.con (.int 1)))]) [(.or (.op2 .inn (.var 2) (.var 1)) (.op2 .gt (.prim .len [(.lcS (.nm 3) (.var 1) [(.op2 .inn (.var 2) (.op2 .ix (.op2 .ix (.var 0) (.con (.int 3))) (.var 3)))] (.var 3))]) (.con (.int 0))))] (.var 2))]⟩
-- 13 _law_bars: 0:_law_model_here 1:_law_writes_here 2:_law_needs_here 3:_law_quarrels 4:_law_hit 5:_law_other 6:_law_shared 7:_law_pair 8:_law_mine 9:_law_drawn_in 10:_law_one
def d__law_bars : MDef := ⟨4, 11,
  [
    .asg (.nm 4) (.lst []),
    .loop (.nm 5) (.rng2 (.con (.int 1)) (.prim .len [(.op2 .ix (.var 0) (.con (.int 1)))]))
      [
        .asg (.nm 6) (.op2 .gt (.prim .len [(.lcS (.nm 7) (.op2 .ix (.op2 .ix (.var 0) (.con (.int 1))) (.var 5)) [(.op2 .inn (.op2 .ix (.var 7) (.con (.int 0))) (.lcS (.nm 8) (.var 1) [] (.op2 .ix (.var 8) (.con (.int 0)))))] (.var 7))]) (.con (.int 0))),
        .asg (.nm 9) (.op2 .gt (.prim .len [(.lcS (.nm 10) (.var 2) [(.op2 .inn (.var 5) (.op2 .ix (.op2 .ix (.var 0) (.con (.int 4))) (.var 10)))] (.var 10))]) (.con (.int 0))),
        .ite (.or (.op2 .inn (.var 5) (.var 3)) (.or (.var 9) (.and (.var 6) (.op2 .notIn (.var 5) (.var 2)))))
          [
            .expr (.meth .append (.var 4) [(.var 5)])]
          []] [6, 9],
    .ret (.lcR2 (.nm 5) (.con (.int 1)) (.prim .len [(.op2 .ix (.var 0) (.con (.int 1)))]) [(.or (.op2 .inn (.var 5) (.var 4)) (.op2 .gt (.prim .len [(.lcS (.nm 10) (.op2 .ix (.op2 .ix (.var 0) (.con (.int 3))) (.var 5)) [(.op2 .inn (.var 10) (.var 4))] (.var 10))]) (.con (.int 0))))] (.var 5))]⟩
-- 14 _law_writes: 0:_law_source_here 1:_law_cells 2:_law_first 3:_law_writes_here 4:_law_second
def d__law_writes : MDef := ⟨2, 5,
  [
    .asg (.nm 2) (.call 11 [(.var 0), (.var 1)]),
    .asg (.nm 3) (.lst [(.tup [(.var 2), (.op2 .sub (.call 11 [(.var 0), (.con (.int 2001))]) (.con (.int 1000)))])]),
    .ite (.and (.op2 .gt (.var 1) (.con (.int 1))) (.op2 .eq (.call 11 [(.var 0), (.con (.int 3))]) (.con (.int 0))))
      [
        .asg (.nm 4) (.op2 .mod (.prim .int [(.op2 .add (.op2 .add (.var 2) (.con (.int 1))) (.call 11 [(.var 0), (.op2 .sub (.var 1) (.con (.int 1)))]))]) (.var 1)),
        .expr (.meth .append (.var 3) [(.tup [(.var 4), (.op2 .sub (.call 11 [(.var 0), (.con (.int 2001))]) (.con (.int 1000)))])])]
      [],
    .ret (.var 3)]⟩
-- 15 _law_grow: 0:_law_source_here 1:_law_model_here 2:_law_cells 3:_law_number 4:_law_writes_here 5:_law_demands 6:_law_other 7:_law_quarrels 8:_law_needs_here 9:_law_bars_here 10:_law_extent
def d__law_grow : MDef := ⟨3, 11,
  [
    .asg (.nm 3) (.prim .len [(.op2 .ix (.var 1) (.con (.int 1)))]),
    .asg (.nm 4) (.call 14 [(.var 0), (.var 2)]),
    .asg (.nm 5) (.lcR2 (.nm 6) (.con (.int 1)) (.var 3) [(.op2 .eq (.call 11 [(.var 0), (.con (.int 3))]) (.con (.int 0)))] (.var 6)),
    .asg (.nm 7) (.lcR2 (.nm 6) (.con (.int 1)) (.var 3) [(.op2 .eq (.call 11 [(.var 0), (.con (.int 6))]) (.con (.int 0)))] (.var 6)),
    .asg (.nm 8) (.call 12 [(.var 1), (.var 5)]),
    .asg (.nm 9) (.call 13 [(.var 1), (.var 4), (.var 8), (.var 7)]),
    .ite (.op2 .gt (.prim .len [(.lcS (.nm 6) (.var 9) [(.op2 .inn (.var 6) (.var 8))] (.var 6))]) (.con (.int 0)))
      [
        .asg (.nm 5) (.lst []),
        .asg (.nm 8) (.lst []),
        .asg (.nm 9) (.call 13 [(.var 1), (.var 4), (.var 8), (.var 7)])]
      [],
    .asg (.nm 10) (.call 11 [(.var 0), (.con (.int 4))]),
    .expr (.meth .append (.op2 .ix (.var 1) (.con (.int 1))) [(.var 4)]),
    .expr (.meth .append (.op2 .ix (.var 1) (.con (.int 2))) [(.ite (.op2 .gt (.var 10) (.con (.int 0))) (.var 10) (.prim .len [(.var 4)]))]),
    .expr (.meth .append (.op2 .ix (.var 1) (.con (.int 3))) [(.var 8)]),
    .expr (.meth .append (.op2 .ix (.var 1) (.con (.int 4))) [(.var 9)]),
    .expr (.meth .append (.op2 .ix (.var 1) (.con (.int 5))) [(.var 5)]),
    .expr (.meth .append (.op2 .ix (.var 1) (.con (.int 6))) [(.var 7)]),
    .loop (.nm 6) (.seq (.var 9))
      [
        .expr (.meth .append (.op2 .ix (.op2 .ix (.var 1) (.con (.int 4))) (.var 6)) [(.var 3)])] [6]]⟩
-- 16 _law_model: 0:_law_source_here 1:_law_most 2:_law_cells 3:_law_base 4:_law_place 5:_law_model_here 6:_law_turn
def d__law_model : MDef := ⟨3, 7,
  [
    .asg (.nm 3) (.lcR1 (.nm 4) (.var 2) [] (.op2 .sub (.call 11 [(.var 0), (.con (.int 2001))]) (.con (.int 1000)))),
    .asg (.nm 5) (.lst [(.var 3), (.lst [(.lst [])]), (.lst [(.con (.int 0))]), (.lst [(.lst [])]), (.lst [(.lst [])]), (.lst [(.lst [])]), (.lst [(.lst [])])]),
    .loop (.nm 6) (.rng1 (.call 11 [(.var 0), (.op2 .add (.var 1) (.con (.int 1)))]))
      [
        .expr (.call 15 [(.var 0), (.var 5), (.var 2)])] [6],
    .ret (.var 5)]⟩
-- 17 _law_book: 0:_law_model_here 1:_law_book_here 2:_law_number
def d__law_book : MDef := ⟨1, 3,
  [
    .asg (.nm 1) (.mk 0 0 [(.prim .list [(.op2 .ix (.var 0) (.con (.int 0)))])]),
    .loop (.nm 2) (.rng2 (.con (.int 1)) (.prim .len [(.op2 .ix (.var 0) (.con (.int 1)))]))
      [
        .expr (.mcl 0 1 (.var 1) [(.prim .list [(.op2 .ix (.op2 .ix (.var 0) (.con (.int 1))) (.var 2))]), (.prim .tuple [(.op2 .ix (.op2 .ix (.var 0) (.con (.int 5))) (.var 2))]), (.prim .tuple [(.op2 .ix (.op2 .ix (.var 0) (.con (.int 6))) (.var 2))]), (.op2 .ix (.op2 .ix (.var 0) (.con (.int 2))) (.var 2))])] [2],
    .ret (.var 1)]⟩
-- 18 _law_fits: 0:_law_model_here 1:_law_taken 2:_law_number 3:_law_other
def d__law_fits : MDef := ⟨3, 4,
  [
    .loop (.nm 3) (.seq (.op2 .ix (.op2 .ix (.var 0) (.con (.int 3))) (.var 2)))
      [
        .ite (.op2 .notIn (.var 3) (.var 1))
          [
            .ret (.con (.bl false))]
          []] [3],
    .loop (.nm 3) (.seq (.op2 .ix (.op2 .ix (.var 0) (.con (.int 4))) (.var 2)))
      [
        .ite (.op2 .inn (.var 3) (.var 1))
          [
            .ret (.con (.bl false))]
          []] [3],
    .ret (.con (.bl true))]⟩
-- 19 _law_version: 0:_law_source_here 1:_law_model_here 2:_law_taken 3:_law_number
def d__law_version : MDef := ⟨2, 4,
  [
    .asg (.nm 2) (.lst []),
    .loop (.nm 3) (.rng2 (.con (.int 1)) (.prim .len [(.op2 .ix (.var 1) (.con (.int 1)))]))
      [
        .ite (.and (.op2 .eq (.call 11 [(.var 0), (.con (.int 2))]) (.con (.int 1))) (.call 18 [(.var 1), (.var 2), (.var 3)]))
          [
            .expr (.meth .append (.var 2) [(.var 3)])]
          []] [3],
    .ret (.prim .tuple [(.var 2)])]⟩
-- 20 _law_put: 0:_law_source_here 1:_law_model_here 2:_law_cells 3:_law_demands 4:_law_number 5:_law_writes_here 6:_law_needs_here 7:_law_quarrels 8:_law_other 9:_law_bars_here 10:_law_extent
def d__law_put : MDef := ⟨4, 11,
  [
    .asg (.nm 4) (.prim .len [(.op2 .ix (.var 1) (.con (.int 1)))]),
    .asg (.nm 5) (.call 14 [(.var 0), (.var 2)]),
    .asg (.nm 6) (.call 12 [(.var 1), (.var 3)]),
    .asg (.nm 7) (.lcR2 (.nm 8) (.con (.int 1)) (.var 4) [(.and (.op2 .notIn (.var 8) (.var 6)) (.op2 .eq (.call 11 [(.var 0), (.con (.int 16))]) (.con (.int 0))))] (.var 8)),
    .asg (.nm 9) (.call 13 [(.var 1), (.var 5), (.var 6), (.var 7)]),
    .asg (.nm 10) (.call 11 [(.var 0), (.con (.int 4))]),
    .expr (.meth .append (.op2 .ix (.var 1) (.con (.int 1))) [(.var 5)]),
    .expr (.meth .append (.op2 .ix (.var 1) (.con (.int 2))) [(.ite (.op2 .gt (.var 10) (.con (.int 0))) (.var 10) (.prim .len [(.var 5)]))]),
    .expr (.meth .append (.op2 .ix (.var 1) (.con (.int 3))) [(.var 6)]),
    .expr (.meth .append (.op2 .ix (.var 1) (.con (.int 4))) [(.var 9)]),
    .expr (.meth .append (.op2 .ix (.var 1) (.con (.int 5))) [(.var 3)]),
    .expr (.meth .append (.op2 .ix (.var 1) (.con (.int 6))) [(.var 7)]),
    .loop (.nm 8) (.seq (.var 9))
      [
        .expr (.meth .append (.op2 .ix (.op2 .ix (.var 1) (.con (.int 4))) (.var 8)) [(.var 4)])] [8]]⟩
-- 21 _law_rich: 0:_law_source_here 1:_law_most 2:_law_cells 3:_law_base 4:_law_place 5:_law_model_here 6:_law_turn 7:_law_below 8:_law_other
def d__law_rich : MDef := ⟨3, 9,
  [
    .asg (.nm 3) (.lcR1 (.nm 4) (.var 2) [] (.op2 .sub (.call 11 [(.var 0), (.con (.int 2001))]) (.con (.int 1000)))),
    .asg (.nm 5) (.lst [(.var 3), (.lst [(.lst [])]), (.lst [(.con (.int 0))]), (.lst [(.lst [])]), (.lst [(.lst [])]), (.lst [(.lst [])]), (.lst [(.lst [])])]),
    .loop (.nm 6) (.rng1 (.prim .max2 [(.call 11 [(.var 0), (.op2 .add (.var 1) (.con (.int 1)))]), (.call 11 [(.var 0), (.op2 .add (.var 1) (.con (.int 1)))])]))
      [
        .asg (.nm 7) (.lst []),
        .loop (.nm 8) (.rng2 (.con (.int 1)) (.prim .len [(.op2 .ix (.var 5) (.con (.int 1)))]))
          [
            .ite (.and (.op2 .gt (.call 11 [(.var 0), (.con (.int 3))]) (.con (.int 0))) (.call 18 [(.var 5), (.var 7), (.var 8)]))
              [
                .expr (.meth .append (.var 7) [(.var 8)])]
              []] [],
        .expr (.call 20 [(.var 0), (.var 5), (.var 2), (.lcS (.nm 8) (.var 7) [(.op2 .eq (.call 11 [(.var 0), (.con (.int 2))]) (.con (.int 0)))] (.var 8))])] [6, 7],
    .ret (.var 5)]⟩
-- 22 _law_world: 0:_law_script 1:_law_source_here 2:_law_most
def d__law_world : MDef := ⟨3, 3,
  [
    .ite (.op2 .eq (.call 11 [(.var 1), (.con (.int 2))]) (.con (.int 0)))
      [
        .ret (.call 16 [(.call 10 [(.var 0), (.con (.int 1))]), (.var 2), (.op2 .add (.con (.int 1)) (.call 11 [(.var 1), (.con (.int 4))]))])]
      [],
    .ret (.call 21 [(.call 10 [(.var 0), (.con (.int 1))]), (.var 2), (.op2 .ix (.lst [(.con (.int 2)), (.con (.int 5)), (.con (.int 12)), (.con (.int 20))]) (.call 11 [(.var 1), (.con (.int 4))]))])]⟩
-- 23 _law_is_version: 0:_law_model_here 1:_law_taken 2:_law_place 3:_law_number 4:_law_other
def d__law_is_version : MDef := ⟨2, 5,
  [
    .loop (.nm 2) (.rng1 (.prim .len [(.var 1)]))
      [
        .asg (.nm 3) (.op2 .ix (.var 1) (.var 2)),
        .ite (.or (.op2 .lt (.var 3) (.con (.int 1))) (.op2 .ge (.var 3) (.prim .len [(.op2 .ix (.var 0) (.con (.int 1)))])))
          [
            .ret (.con (.bl false))]
          [],
        .ite (.and (.op2 .gt (.var 2) (.con (.int 0))) (.op2 .ge (.op2 .ix (.var 1) (.op2 .sub (.var 2) (.con (.int 1)))) (.var 3)))
          [
            .ret (.con (.bl false))]
          [],
        .ite (.op2 .gt (.prim .len [(.lcS (.nm 4) (.op2 .ix (.op2 .ix (.var 0) (.con (.int 3))) (.var 3)) [(.op2 .notIn (.var 4) (.var 1))] (.var 4))]) (.con (.int 0)))
          [
            .ret (.con (.bl false))]
          [],
        .ite (.op2 .gt (.prim .len [(.lcS (.nm 4) (.op2 .ix (.op2 .ix (.var 0) (.con (.int 4))) (.var 3)) [(.op2 .inn (.var 4) (.var 1))] (.var 4))]) (.con (.int 0)))
          [
            .ret (.con (.bl false))]
          []] [2, 3],
    .ret (.con (.bl true))]⟩
-- 24 _law_odd: 0:_law_source_here 1:_law_model_here 2:_law_many 3:_law_taken 4:_law_kind 5:_law_far 6:_law_place 7:_law_turn 8:_law_number
def d__law_odd : MDef := ⟨2, 9,
  [
    .asg (.nm 2) (.op2 .sub (.prim .len [(.op2 .ix (.var 1) (.con (.int 1)))]) (.con (.int 1))),
    .asg (.nm 3) (.prim .list [(.call 19 [(.var 0), (.var 1)])]),
    .asg (.nm 4) (.call 11 [(.var 0), (.con (.int 9))]),
    .asg (.nm 5) (.op2 .add (.op2 .add (.var 2) (.con (.int 2))) (.call 11 [(.var 0), (.con (.int 30))])),
    .asg (.nm 5) (.op2 .add (.var 5) (.op2 .mul (.op2 .pow (.con (.int 10)) (.con (.int 18))) (.prim .int [(.op2 .eq (.op2 .mod (.prim .int [(.var 5)]) (.con (.int 8))) (.con (.int 7)))]))),
    .ite (.and (.op2 .eq (.var 4) (.con (.int 1))) (.op2 .gt (.prim .len [(.var 3)]) (.con (.int 0))))
      [
        .expr (.meth .pop (.var 3) [(.call 11 [(.var 0), (.prim .len [(.var 3)])])])]
      [
        .ite (.op2 .eq (.var 4) (.con (.int 2)))
          [
            .asg (.nm 3) (.prim .sorted [(.op2 .add (.var 3) (.lst [(.op2 .add (.con (.int 1)) (.call 11 [(.var 0), (.op2 .add (.var 2) (.con (.int 1)))]))]))])]
          [
            .ite (.and (.op2 .eq (.var 4) (.con (.int 3))) (.op2 .gt (.prim .len [(.var 3)]) (.con (.int 1))))
              [
                .asg (.nm 6) (.op2 .add (.con (.int 1)) (.call 11 [(.var 0), (.op2 .sub (.prim .len [(.var 3)]) (.con (.int 1)))])),
                .asg (.nm 3) (.op2 .add (.op2 .add (.sl false true (.var 3) (.con .non) (.op2 .sub (.var 6) (.con (.int 1)))) (.lst [(.op2 .ix (.var 3) (.var 6)), (.op2 .ix (.var 3) (.op2 .sub (.var 6) (.con (.int 1))))])) (.sl true false (.var 3) (.op2 .add (.var 6) (.con (.int 1))) (.con .non)))]
              [
                .ite (.and (.op2 .eq (.var 4) (.con (.int 4))) (.op2 .gt (.prim .len [(.var 3)]) (.con (.int 0))))
                  [
                    .asg (.nm 6) (.call 11 [(.var 0), (.prim .len [(.var 3)])]),
                    .expr (.meth .insert (.var 3) [(.call 11 [(.var 0), (.op2 .add (.prim .len [(.var 3)]) (.con (.int 1)))]), (.op2 .ix (.var 3) (.var 6))])]
                  [
                    .ite (.op2 .eq (.var 4) (.con (.int 5)))
                      [
                        .expr (.meth .insert (.var 3) [(.call 11 [(.var 0), (.op2 .add (.prim .len [(.var 3)]) (.con (.int 1)))]), (.op2 .ix (.lst [(.con (.int 0)), (.prim .neg [(.con (.int 1))]), (.op2 .add (.var 2) (.con (.int 1))), (.var 5), (.op2 .sub (.con (.int 0)) (.var 5))]) (.call 11 [(.var 0), (.con (.int 5))]))])]
                      [
                        .ite (.op2 .eq (.var 4) (.con (.int 6)))
                          [
                            .asg (.nm 3) (.rev (.var 3))]
                          [
                            .ite (.op2 .eq (.var 4) (.con (.int 7)))
                              [
                                .asg (.nm 3) (.lcR1 (.nm 7) (.call 11 [(.var 0), (.con (.int 5))]) [] (.op2 .sub (.call 11 [(.var 0), (.op2 .add (.var 2) (.con (.int 3)))]) (.con (.int 1))))]
                              [
                                .ite (.op2 .eq (.var 4) (.con (.int 8)))
                                  [
                                    .asg (.nm 3) (.lcR2 (.nm 8) (.con (.int 1)) (.op2 .add (.var 2) (.con (.int 1))) [(.op2 .eq (.call 11 [(.var 0), (.con (.int 2))]) (.con (.int 0)))] (.var 8))]
                                  []]]]]]]],
    .ret (.prim .tuple [(.var 3)])]⟩
-- 25 _law_subsets: 0:_law_many 1:_law_told 2:_law_number 3:_law_one
def d__law_subsets : MDef := ⟨1, 4,
  [
    .asg (.nm 1) (.lst [(.tup [])]),
    .loop (.nm 2) (.rng2 (.con (.int 1)) (.op2 .add (.var 0) (.con (.int 1))))
      [
        .asg (.nm 1) (.op2 .add (.var 1) (.lcS (.nm 3) (.var 1) [] (.op2 .add (.var 3) (.tup [(.var 2)]))))] [2],
    .ret (.var 1)]⟩
-- 26 _law_agrees: 0:_law_book_here 1:_law_model_here 2:_law_asked 3:_law_taken
def d__law_agrees : MDef := ⟨3, 4,
  [
    .ret (.op2 .eq (.prim .len [(.lcS (.nm 3) (.var 2) [(.op2 .ne (.cin false 0 7 (.var 3) (.var 0)) (.call 23 [(.var 1), (.var 3)]))] (.var 3))]) (.con (.int 0)))]⟩
-- 27 law: 0:_law_script 1:_law_source_here 2:_law_model_here 3:_law_book_here 4:_law_many 5:_law_asked 6:_law_drawn 7:_law_place 8:_law_further 9:_law_taken 10:_law_told
def d_law : MDef := ⟨1, 11,
  [
    .asg (.nm 1) (.call 10 [(.var 0), (.con (.int 0))]),
    .asg (.nm 2) (.call 22 [(.var 0), (.var 1), (.ite (.op2 .eq (.call 11 [(.var 1), (.con (.int 8))]) (.con (.int 7))) (.con (.int 14)) (.con (.int 6)))]),
    .asg (.nm 3) (.call 17 [(.var 2)]),
    .asg (.nm 4) (.op2 .sub (.prim .len [(.op2 .ix (.var 2) (.con (.int 1)))]) (.con (.int 1))),
    .asg (.nm 5) (.ite (.op2 .lt (.var 4) (.con (.int 7))) (.call 25 [(.var 4)]) (.lst [(.tup []), (.tup [(.con (.int 1))]), (.tup [(.var 4)]), (.tupR (.con (.int 1)) (.op2 .add (.var 4) (.con (.int 1))))])),
    .asg (.nm 6) (.lcR2 (.nm 7) (.con (.int 3)) (.prim .max2 [(.con (.int 9)), (.prim .min2 [(.prim .len [(.var 0)]), (.con (.int 31))])]) [] (.call 24 [(.call 10 [(.var 0), (.var 7)]), (.var 2)])),
    .ite (.or (.nt (.call 26 [(.var 3), (.var 2), (.var 5)])) (.nt (.call 26 [(.var 3), (.var 2), (.var 6)])))
      [
        .ret (.con (.bl false))]
      [],
    .asg (.nm 8) (.op2 .add (.op2 .add (.var 5) (.var 6)) (.lcS (.nm 9) (.var 5) [] (.op2 .add (.var 9) (.tup [(.op2 .add (.var 4) (.con (.int 1)))])))),
    .ite (.nt (.call 26 [(.var 3), (.var 2), (.var 8)]))
      [
        .ret (.con (.bl false))]
      [],
    .expr (.call 15 [(.call 10 [(.var 0), (.con (.int 2))]), (.var 2), (.prim .len [(.op2 .ix (.var 2) (.con (.int 0)))])]),
    .asg (.nm 10) (.mcl 0 1 (.var 3) [(.prim .list [(.op2 .ix (.op2 .ix (.var 2) (.con (.int 1))) (.op2 .add (.var 4) (.con (.int 1))))]), (.prim .tuple [(.op2 .ix (.op2 .ix (.var 2) (.con (.int 5))) (.op2 .add (.var 4) (.con (.int 1))))]), (.prim .tuple [(.op2 .ix (.op2 .ix (.var 2) (.con (.int 6))) (.op2 .add (.var 4) (.con (.int 1))))]), (.op2 .ix (.op2 .ix (.var 2) (.con (.int 2))) (.op2 .add (.var 4) (.con (.int 1))))]),
    .ret (.and (.op2 .eq (.var 10) (.op2 .add (.var 4) (.con (.int 1)))) (.call 26 [(.var 3), (.var 2), (.var 8)]))]⟩
def defs : List MDef := [d_Book___init__, d_Book_make_patch, d_Book__new_bars, d_Book__members, d_Book_check_number, d_Book_mask_of, d_Book_holds, d_Book___contains__, d_least_number, d_checked_writes, d__law_source, d__law_draw, d__law_needs, d__law_bars, d__law_writes, d__law_grow, d__law_model, d__law_book, d__law_fits, d__law_version, d__law_put, d__law_rich, d__law_world, d__law_is_version, d__law_odd, d__law_subsets, d__law_agrees, d_law]
def Wd (r : MV → Txt) : World := ⟨defs, r, 100000⟩
theorem g_Book___init__ (r : MV → Txt) : (Wd r).defs[0]? = some d_Book___init__ := rfl
theorem g_Book_make_patch (r : MV → Txt) : (Wd r).defs[1]? = some d_Book_make_patch := rfl
theorem g_Book__new_bars (r : MV → Txt) : (Wd r).defs[2]? = some d_Book__new_bars := rfl
theorem g_Book__members (r : MV → Txt) : (Wd r).defs[3]? = some d_Book__members := rfl
theorem g_Book_check_number (r : MV → Txt) : (Wd r).defs[4]? = some d_Book_check_number := rfl
theorem g_Book_mask_of (r : MV → Txt) : (Wd r).defs[5]? = some d_Book_mask_of := rfl
theorem g_Book_holds (r : MV → Txt) : (Wd r).defs[6]? = some d_Book_holds := rfl
theorem g_Book___contains__ (r : MV → Txt) : (Wd r).defs[7]? = some d_Book___contains__ := rfl
theorem g_least_number (r : MV → Txt) : (Wd r).defs[8]? = some d_least_number := rfl
theorem g_checked_writes (r : MV → Txt) : (Wd r).defs[9]? = some d_checked_writes := rfl
theorem g__law_source (r : MV → Txt) : (Wd r).defs[10]? = some d__law_source := rfl
theorem g__law_draw (r : MV → Txt) : (Wd r).defs[11]? = some d__law_draw := rfl
theorem g__law_needs (r : MV → Txt) : (Wd r).defs[12]? = some d__law_needs := rfl
theorem g__law_bars (r : MV → Txt) : (Wd r).defs[13]? = some d__law_bars := rfl
theorem g__law_writes (r : MV → Txt) : (Wd r).defs[14]? = some d__law_writes := rfl
theorem g__law_grow (r : MV → Txt) : (Wd r).defs[15]? = some d__law_grow := rfl
theorem g__law_model (r : MV → Txt) : (Wd r).defs[16]? = some d__law_model := rfl
theorem g__law_book (r : MV → Txt) : (Wd r).defs[17]? = some d__law_book := rfl
theorem g__law_fits (r : MV → Txt) : (Wd r).defs[18]? = some d__law_fits := rfl
theorem g__law_version (r : MV → Txt) : (Wd r).defs[19]? = some d__law_version := rfl
theorem g__law_put (r : MV → Txt) : (Wd r).defs[20]? = some d__law_put := rfl
theorem g__law_rich (r : MV → Txt) : (Wd r).defs[21]? = some d__law_rich := rfl
theorem g__law_world (r : MV → Txt) : (Wd r).defs[22]? = some d__law_world := rfl
theorem g__law_is_version (r : MV → Txt) : (Wd r).defs[23]? = some d__law_is_version := rfl
theorem g__law_odd (r : MV → Txt) : (Wd r).defs[24]? = some d__law_odd := rfl
theorem g__law_subsets (r : MV → Txt) : (Wd r).defs[25]? = some d__law_subsets := rfl
theorem g__law_agrees (r : MV → Txt) : (Wd r).defs[26]? = some d__law_agrees := rfl
theorem g_law (r : MV → Txt) : (Wd r).defs[27]? = some d_law := rfl
end Mini
namespace Mini
theorem wf_W (r : MV → Txt) : (Wd r).wf = 100000 := rfl
/-- a row of draws stands at s; at most b were taken -/
def Src (st : Store) (s b : Nat) : Prop := ∃ (c q : Int) (n : Nat), cel st s = some (.lst [.int c, .int q, .int n]) ∧ n ≤ b
theorem Src.keep {st st' : Store} {s b : Nat} {w : List Nat} (h : Src st s b) (k : Keep w st st') (hs : s ∉ w) : Src st' s b := by
  obtain ⟨c, q, n, h1, h2⟩ := h
  exact ⟨c, q, n, cel_keep k h1 hs, h2⟩
theorem mulS {i j : Int} {st : Store} (a b : Nat) (hi : i.natAbs < 2 ^ a) (hj : j.natAbs < 2 ^ b) (ha : 0 < a := by decide) (hb : 0 < b := by decide) (h : a + b ≤ 1000000 := by decide) : op2 .mul (.int i) (.int j) st = .ok (.int (i * j)) st := o_mul (mulOk hi hj ha hb h)
theorem mulM {x d : Int} {e : Int} {st : Store} (hd : 0 < d) (hd2 : d < 2 ^ 40) (he : 0 ≤ e) (he2 : e < 2 ^ 40) : op2 .mul (.int (x % d)) (.int (x % d + e)) st = .ok (.int (x % d * (x % d + e))) st := by
  have h0 := Int.emod_nonneg x (show d ≠ 0 by omega)
  have h1 := Int.emod_lt_of_pos x hd
  exact mulS 40 42 (by omega) (by omega)
theorem draw_ok {r : MV → Txt} {K s b : Nat} {m : Int} {st : Store} (hK : 1 ≤ K) (h : Src st s b) (hb : b ≤ 1000000) (hm : 0 < m) (hm2 : m < 10 ^ 40) : ∃ (v : Int) (st' : Store), callK (Wd r) K 11 [.loc s, .int m] st = .ok (.int v) st' ∧ 0 ≤ v ∧ v < m ∧ Src st' s (b + 1) ∧ Keep [s] st st' := by
  obtain ⟨k, rfl⟩ : ∃ k, K = k + 1 := ⟨K - 1, by omega⟩
  obtain ⟨c, q, n, h1, h2⟩ := h
  refine OkQ.ex MV.int fun Q hQ => ?_
  rw [callK_eq (g__law_draw r) rfl]
  have hlt := cel_lt h1
  have hml : m.natAbs.log2 < 9000 := Nat.lt_of_lt_of_le (log2_lt (k := 140) (by omega) (by decide)) (by decide)
  have hmul1 : ∀ s, op2 .mul (.int 7919) (.int ((n : Int) + 1)) s = .ok (.int (7919 * ((n : Int) + 1))) s := fun s => mulS 40 40 (by omega) (by omega)
  have hmul2 : ∀ s, op2 .mul (.int 31) (.int ((n : Int) + 1)) s = .ok (.int (31 * ((n : Int) + 1))) s := fun s => mulS 40 40 (by omega) (by omega)
  by_cases hq : 0 < q
  · simp [d__law_draw, h1, cel_set, hlt, ixN_lit, hq, o_mod hm, o_fdiv hm hml]
    refine hQ _ _ ⟨Int.emod_nonneg _ (by omega), Int.emod_lt_of_pos _ hm, ⟨_, _, n + 1, cel_set _ _ _ (by simpa using hlt), by omega⟩, ?_⟩
    exact Keep.set
  · simp [d__law_draw, h1, cel_set, hlt, ixN_lit, hq, o_mod hm, mulM, hmul1, hmul2]
    refine hQ _ _ ⟨Int.emod_nonneg _ (by omega), Int.emod_lt_of_pos _ hm, ⟨_, _, n + 1, cel_set _ _ _ (by simpa using hlt), by omega⟩, ?_⟩
    exact Keep.set
theorem Src.mono {st : Store} {s b b' : Nat} (h : Src st s b) (hb : b ≤ b') : Src st s b' := by
  obtain ⟨c, q, n, h1, h2⟩ := h
  exact ⟨c, q, n, h1, by omega⟩
theorem Src.set {st : Store} {s b n : Nat} {c : Cell} (h : Src st s b) (hn : n ≠ s) : Src (st.set n c) s b := by
  obtain ⟨c, q, m, h1, h2⟩ := h
  exact ⟨c, q, m, by rw [cel_set_ne _ _ _ _ hn]; exact h1, h2⟩
theorem Src.app {st t : Store} {s b : Nat} (h : Src st s b) : Src (st ++ t) s b := by
  obtain ⟨c, q, m, h1, h2⟩ := h
  exact ⟨c, q, m, cel_app_old h1, h2⟩
theorem Src.lt {st : Store} {s b : Nat} (h : Src st s b) : s < st.length := by
  obtain ⟨c, q, m, h1, h2⟩ := h
  exact cel_lt h1
theorem source_ok {r : MV → Txt} {K p : Nat} {ns : List Int} {j : Int} {st : Store} (hK : 1 ≤ K) (hp : cel st p = some (.ro (ns.map .int))) (hn : ns.length ≤ 1000) (hj : 0 ≤ j) (hj2 : j ≤ 1000000) : ∃ (n : Nat) (st' : Store), callK (Wd r) K 10 [.loc p, .int j] st = .ok (.loc n) st' ∧ st.length ≤ n ∧ Src st' n 0 ∧ Keep [] st st' := by
  obtain ⟨k, rfl⟩ : ∃ k, K = k + 1 := ⟨K - 1, by omega⟩
  refine OkQ.ex MV.loc fun Q hQ => ?_
  rw [callK_eq (g__law_source r) rfl]
  obtain ⟨i, rfl⟩ := Int.eq_ofNat_of_zero_le hj
  have m0 : ∀ s, op2 .mul (.int 31) (.int i) s = .ok (.int (31 * i)) s := fun s => mulS 40 40 (by omega) (by omega)
  have m1 : ∀ s, op2 .mul (.int 1009) (.int ns.length) s = .ok (.int (1009 * ns.length)) s := fun s => mulS 40 40 (by omega) (by omega)
  by_cases c0 : i < ns.length
  · simp [d__law_source, hp, c0]
    by_cases c1 : (1000000000000000000 : Int) ≤ (if ns[i] < 0 then -ns[i] else ns[i])
    · simp [c1, newL_ok, sizeMax]
      exact hQ _ _ ⟨Nat.le_refl _, ⟨_, _, 0, cel_new _ _, by omega⟩, Keep.new⟩
    · simp [c1, newL_ok, sizeMax]
      exact hQ _ _ ⟨Nat.le_refl _, ⟨_, _, 0, cel_new _ _, by omega⟩, Keep.new⟩
  · simp [d__law_source, hp, c0, m0, m1]
    by_cases c1 : (1000000000000000000 : Int) ≤ 7 + 31 * i + 1009 * ns.length
    · simp [c1, newL_ok, sizeMax]
      exact hQ _ _ ⟨Nat.le_refl _, ⟨_, _, 0, cel_new _ _, by omega⟩, Keep.new⟩
    · simp [c1, newL_ok, sizeMax]
      exact hQ _ _ ⟨Nat.le_refl _, ⟨_, _, 0, cel_new _ _, by omega⟩, Keep.new⟩
theorem ints_of {acc : List MV} {R : Int → Prop} (h : ∀ y, y ∈ acc → ∃ i, y = .int i ∧ R i) : ∃ l : List Int, acc = l.map .int ∧ ∀ i, i ∈ l → R i := by
  induction acc with
  | nil => exact ⟨[], rfl, by simp⟩
  | cons y r ih =>
    obtain ⟨l, e, g⟩ := ih fun z hz => h z (by simp [hz])
    obtain ⟨i, hi, hR⟩ := h y (by simp)
    refine ⟨i :: l, by rw [hi, e]; rfl, ?_⟩
    intro x hx
    rcases List.mem_cons.mp hx with rfl | hx
    · exact hR
    · exact g x hx
theorem bls_of {acc : List MV} (h : ∀ y, y ∈ acc → ∃ i, y = .bl i) : ∃ l : List Bool, acc = l.map .bl := by
  induction acc with
  | nil => exact ⟨[], rfl⟩
  | cons y r ih =>
    obtain ⟨l, e⟩ := ih fun z hz => h z (by simp [hz])
    obtain ⟨i, hi⟩ := h y (by simp)
    exact ⟨i :: l, by rw [hi, e]; rfl⟩
def IsB (y : MV) : Prop := ∃ b, y = .bl b
theorem isB_bl (b : Bool) : IsB (.bl b) := ⟨b, rfl⟩
end Mini
namespace Mini
/-- a mask of numbers -/
theorem mask_of_ok {r : MV → Txt} {K B : Nat} {l : List Int} {st : Store} (hK : 1 ≤ K) (hl : ∀ x, x ∈ l → 0 ≤ x ∧ x ≤ 1000) : ∃ m, callK (Wd r) K 5 [.loc B, .tup (l.map .int)] st = .ok (.int m) st ∧ Msk m (fun i => (i : Int) ∈ l) := by
  obtain ⟨k, rfl⟩ : ∃ k, K = k + 1 := ⟨K - 1, by omega⟩
  suffices ∃ m s, callK (Wd r) (k + 1) 5 [.loc B, .tup (l.map .int)] st = .ok (.int m) s ∧ s = st ∧ Msk m (fun i => (i : Int) ∈ l) by
    obtain ⟨m, s, h1, rfl, h2⟩ := this
    exact ⟨m, h1, h2⟩
  refine OkQ.ex MV.int fun Q hQ => ?_
  rw [callK_eq (g_Book_mask_of r) rfl]
  simp [d_Book_mask_of, okQ_bind]
  refine okQ_forW (l := l.map .int) (w := []) (fun i e s => s = st ∧ ∃ m, e = [some (.loc B), some (.tup (l.map .int)), some (.int m), none] ∧ Msk m (fun j => (j : Int) ∈ l.take i)) walks_itm (by simp) (fun i e s h => by rw [h.1]; exact Keep.refl) ⟨rfl, 0, rfl, by simpa using Msk.zero⟩ ?_ ?_
  · rintro i x e s hx ⟨rfl, m, rfl, hm⟩
    obtain ⟨v, hv, rfl⟩ := getMap hx
    obtain ⟨h0, h1⟩ := hl v (List.mem_of_getElem? hv)
    obtain ⟨n, rfl⟩ := Int.eq_ofNat_of_zero_le h0
    have hn : n ≤ 1000000 := by omega
    simp [shl1 hn, o_bor hm.1 Msk.one.nn]
    refine (hm.or Msk.one).congr fun j => ?_
    rw [take_snoc hv, List.mem_append, List.mem_singleton, Int.ofNat_inj]
  · rintro e s ⟨rfl, m, rfl, hm⟩
    simp
    exact hQ _ _ ⟨rfl, by simpa using hm⟩
/-- the numbers of a mask -/
theorem members_ok {r : MV → Txt} {K b : Nat} {G : Rb → Nat} {S : BkS} {M : BkM} {m : Int} {P : Nat → Prop} {st : Store} (hK : 1 ≤ K) (h : BookM st b G S M) (hn : S.n ≤ 1000) (hm : Msk m P) :
    ∃ (l : List Int) (s : Store), callK (Wd r) K 3 [.loc b, .int m] st = .ok (.tup (l.map MV.int)) s ∧ Keep [] st s ∧ (∀ x : Int, x ∈ l ↔ 1 ≤ x ∧ x ≤ S.n ∧ P x.toNat) ∧ l.length ≤ S.n := by
  obtain ⟨k, rfl⟩ : ∃ k, K = k + 1 := ⟨K - 1, by omega⟩
  refine OkQ.ex (fun l : List Int => MV.tup (l.map MV.int)) fun Q hQ => ?_
  rw [callK_eq (g_Book__members r) rfl]
  simp [d_Book__members, h.t, h.nums, okQ_bind]
  refine okQ_lcI (l := rgI 1 S.n) (w := []) (fun x => decide (band (m / 2 ^ x.toNat) 1 = 1)) .int (walks_lst h.nums (by simp)) (by simp; omega) ?_ ?_ (by simp)
  · intro x s hx k
    obtain ⟨h0, h1⟩ := mem_rgI.mp hx
    obtain ⟨n, rfl⟩ := Int.eq_ofNat_of_zero_le (by omega : 0 ≤ x)
    simp [shr1, o_band (hm.div_nn n)]
    by_cases hb : band (m / 2 ^ n) 1 = 1
    · simp [hb, Keep.refl]
    · simp [hb, Keep.refl]
  · intro s ks hs
    have hl : ((rgI 1 S.n).filter fun x => decide (band (m / 2 ^ x.toNat) 1 = 1)).length ≤ S.n := by
      have := List.length_filter_le (fun x => decide (band (m / 2 ^ x.toNat) 1 = 1)) (rgI 1 S.n)
      rwa [rgI_len] at this
    simp [hs, tpV]
    rw [if_pos (by omega)]
    simp
    refine hQ _ _ ⟨ks, fun x => ?_, hl⟩
    rw [List.mem_filter, mem_rgI, decide_eq_true_eq, hm.bit]
    exact ⟨fun ⟨⟨a, b⟩, c⟩ => ⟨a, by omega, c⟩, fun ⟨a, b, c⟩ => ⟨⟨a, by omega⟩, c⟩⟩
/-- a tuple that is a version: ascending, of numbers of the book, with all that they need, without a bar -/
def Ver (S : BkS) (l : List Int) : Prop := l.Pairwise (· < ·) ∧ (∀ x, x ∈ l → 1 ≤ x ∧ x ≤ S.n) ∧ (∀ x, x ∈ l → ∀ j, S.Nd x.toNat j → (j : Int) ∈ l) ∧ ∀ x, x ∈ l → ∀ y, y ∈ l → ¬S.Br x.toNat y.toNat
/-- what the book's own walk sees: each number ahead of what follows -/
def Hold (S : BkS) : List Int → Prop := fun l => l.Pairwise (· < ·) ∧ (∀ x, x ∈ l → 1 ≤ x ∧ x ≤ S.n) ∧ ∀ i x, l[i]? = some x → (∀ j, S.Nd x.toNat j → (j : Int) ∈ l.take i) ∧ ∀ j : Nat, (j : Int) ∈ l.take i → ¬S.Br x.toNat j
theorem pairwise_snoc {l : List Int} {v p : Int} (h : l.Pairwise (· < ·)) (hp : ∀ x, x ∈ l → x ≤ p) (hv : p < v) : (l ++ [v]).Pairwise (· < ·) := by
  rw [List.pairwise_append]
  refine ⟨h, List.pairwise_singleton _ _, fun a ha c hc => ?_⟩
  rw [List.mem_singleton] at hc
  have := hp a ha
  omega
theorem pairwise_take {l : List Int} {i : Nat} {v p : Int} (h : l.Pairwise (· < ·)) (hv : l[i]? = some v) (hp : p ∈ l.take i) : p < v := by
  obtain ⟨j, hj⟩ := List.mem_iff_getElem?.mp hp
  have hi := (List.getElem?_eq_some_iff.mp hv)
  have hj2 := (List.getElem?_eq_some_iff.mp hj)
  obtain ⟨a, ha⟩ := hi
  obtain ⟨c, hc⟩ := hj2
  rw [List.length_take] at c
  rw [List.getElem_take] at hc
  rw [← ha, ← hc]
  exact List.pairwise_iff_getElem.mp h j i (by omega) a (by omega)
open Classical in
theorem holds_ok {r : MV → Txt} {K b : Nat} {G : Rb → Nat} {S : BkS} {M : BkM} {l : List Int} {st : Store} (hK : 1 ≤ K) (h : BookM st b G S M) (hn : S.n ≤ 1000) :
    callK (Wd r) K 6 [.loc b, .tup (l.map MV.int)] st = .ok (.bl (decide (Hold S l))) st := by
  obtain ⟨k, rfl⟩ : ∃ k, K = k + 1 := ⟨K - 1, by omega⟩
  refine OkQ.eq fun Q hQ => ?_
  rw [callK_eq (g_Book_holds r) rfl]
  simp [d_Book_holds, okQ_bind]
  refine okQ_forW (l := l.map .int) (w := []) (fun i e s => s = st ∧ ∃ m p, e = [some (.loc b), some (.tup (l.map .int)), some (.int m), some (.int p), none, none] ∧ Msk m (fun j => (j : Int) ∈ l.take i) ∧ Hold S (l.take i) ∧ (∀ x, x ∈ l.take i → x ≤ p) ∧ (p = 0 ∨ p ∈ l.take i) ∧ 0 ≤ p) walks_itm (by simp) (fun i e s h => by rw [h.1]; exact Keep.refl)
    ⟨rfl, 0, 0, rfl, by simpa using Msk.zero, ⟨by simp, by simp, by simp⟩, by simp, by simp, by simp⟩ ?_ ?_
  · rintro i x e s hx ⟨rfl, m, p, rfl, hm, hH, hp, hp2, hp0⟩
    obtain ⟨v, hv, rfl⟩ := getMap hx
    have hvm : v ∈ l := List.mem_of_getElem? hv
    simp [h.t, h.nums]
    have no : ¬Hold S l → Q (.bl false) s := fun g => by rw [decide_eq_false g] at hQ; exact hQ
    by_cases c1 : p < v ∧ v ≤ S.n
    · obtain ⟨n, rfl⟩ := Int.eq_ofNat_of_zero_le (by omega : 0 ≤ v)
      have hnn : n ≤ S.n := by omega
      have e1 : ((List.range (S.n + 1)).map fun i => MV.int (M.nm i))[n]? = some (.int (M.nm n)) := getF (by omega)
      have e2 : ((List.range (S.n + 1)).map fun i => MV.int (M.bm i))[n]? = some (.int (M.bm n)) := getF (by omega)
      have mn := h.nm n hnn
      have mb := h.bm n hnn
      have a1 := mn.and hm
      have a2 := mb.and hm
      have hn2 : n ≤ 1000000 := by omega
      simp [c1.1, c1.2, h.t, h.nds, h.brs, e1, e2, o_band mn.1, o_band mb.1]
      by_cases c2 : band (M.nm n) m = M.nm n
      · by_cases c3 : band (M.bm n) m = 0
        · simp [c2, c3, h.t, h.brs, e2, o_band mb.1, shl1 hn2, o_bor hm.1 Msk.one.nn]
          refine ⟨_, n, ⟨rfl, rfl⟩, (hm.or Msk.one).congr fun j => ?_, ?_, ?_, ?_, by omega⟩
          · rw [take_snoc hv, List.mem_append, List.mem_singleton, Int.ofNat_inj]
          · rw [take_snoc hv]
            refine ⟨pairwise_snoc hH.1 hp c1.1, fun x hx => ?_, fun i' x hx => ?_⟩
            · rcases List.mem_append.mp hx with hx | hx
              · exact hH.2.1 x hx
              · rw [List.mem_singleton] at hx
                omega
            · by_cases hi : i' < (l.take i).length
              · rw [List.getElem?_append_left hi] at hx
                rw [List.take_append_of_le_length (by omega)]
                exact hH.2.2 i' x hx
              · have : i' = (l.take i).length := by
                  have := (List.getElem?_eq_some_iff.mp hx).1
                  simp only [List.length_append, List.length_singleton] at this
                  omega
                subst this
                simp at hx
                subst hx
                rw [List.take_left]
                refine ⟨fun j hj => ?_, fun j hj g => ?_⟩
                · exact (((a1.eq_iff mn).mp c2 j).mpr (by simpa using hj)).2
                · exact a2.zero_iff.mp c3 j ⟨by simpa using g, hj⟩
          · intro x hx
            rw [take_snoc hv] at hx
            rcases List.mem_append.mp hx with hx | hx
            · have := hp x hx
              omega
            · rw [List.mem_singleton] at hx
              omega
          · right
            rw [take_snoc hv]
            simp
        · simp [c2, c3, h.t, h.brs, e2, o_band mb.1]
          exact no fun g => c3 (a2.zero_iff.mpr fun j hj => (g.2.2 i n hv).2 j hj.2 (by simpa using hj.1))
      · simp [c2]
        exact no fun g => c2 ((a1.eq_iff mn).mpr fun j => ⟨And.left, fun hj => ⟨hj, (g.2.2 i n hv).1 j (by simpa using hj)⟩⟩)
    · have g : ¬Hold S l := fun g => c1 ⟨by
        rcases hp2 with rfl | hp2
        · have := (g.2.1 v hvm).1
          omega
        · exact pairwise_take g.1 hv hp2, (g.2.1 v hvm).2⟩
      by_cases ca : p < v
      · have cb : ¬v ≤ S.n := fun z => c1 ⟨ca, z⟩
        simp [ca, cb, h.t, h.nums]
        exact no g
      · simp [ca]
        exact no g
  · rintro e s ⟨rfl, m, p, rfl, hm, hH, hp, hp2, hp0⟩
    rw [List.length_map, List.take_length] at hH
    simp
    rw [decide_eq_true hH] at hQ
    exact hQ
theorem contains_ok {r : MV → Txt} {K b : Nat} {G : Rb → Nat} {S : BkS} {M : BkM} {l : List Int} {st : Store} (hK : 2 ≤ K) (h : BookM st b G S M) (hn : S.n ≤ 1000) :
    callK (Wd r) K 7 [.loc b, .tup (l.map MV.int)] st = .ok (.bl (@decide (Hold S l) (Classical.propDecidable _))) st := by
  obtain ⟨k, rfl⟩ : ∃ k, K = k + 1 := ⟨K - 1, by omega⟩
  rw [callK_eq (g_Book___contains__ r) rfl]
  simp [d_Book___contains__, h.t, holds_ok (r := r) (l := l) (by omega : 1 ≤ k) h hn]
/-- the two ways of saying it are one, if what a patch needs stands below it and bars are mutual -/
theorem hold_iff {S : BkS} {l : List Int} (hN : ∀ i j, 1 ≤ i → i ≤ S.n → S.Nd i j → j < i) (hB : ∀ i j, 1 ≤ i → i ≤ S.n → 1 ≤ j → j ≤ S.n → (S.Br i j ↔ S.Br j i)) (hI : ∀ i, 1 ≤ i → i ≤ S.n → ¬S.Br i i) : Hold S l ↔ Ver S l := by
  constructor
  · rintro ⟨h1, h2, h3⟩
    refine ⟨h1, h2, fun x hx j hj => ?_, fun x hx y hy => ?_⟩
    · obtain ⟨i, hi⟩ := List.mem_iff_getElem?.mp hx
      exact List.mem_of_mem_take ((h3 i x hi).1 j hj)
    · obtain ⟨i, hi⟩ := List.mem_iff_getElem?.mp hx
      obtain ⟨j, hj⟩ := List.mem_iff_getElem?.mp hy
      have bx := h2 x hx
      have bY := h2 y hy
      have low : ∀ {i j : Nat} {x y : Int}, l[i]? = some x → l[j]? = some y → j < i → 0 ≤ y → ¬S.Br x.toNat y.toNat := fun {i j x y} hi hj hlt h0 => (h3 i x hi).2 y.toNat (by
        rw [Int.toNat_of_nonneg h0]
        refine List.mem_iff_getElem?.mpr ⟨j, ?_⟩
        rw [List.getElem?_take_of_lt hlt]
        exact hj)
      rcases Nat.lt_trichotomy i j with hlt | rfl | hlt
      · intro g
        exact low hj hi hlt (by omega) ((hB _ _ (by omega) (by omega) (by omega) (by omega)).mp g)
      · rw [hi] at hj
        cases hj
        exact hI _ (by omega) (by omega)
      · exact low hi hj hlt (by omega)
  · rintro ⟨h1, h2, h3, h4⟩
    refine ⟨h1, h2, fun i x hi => ⟨fun j hj => ?_, fun j hj => ?_⟩⟩
    · have hx : x ∈ l := List.mem_of_getElem? hi
      have bx := h2 x hx
      have hjx := hN _ _ (by omega) (by omega) hj
      obtain ⟨p, hp⟩ := List.mem_iff_getElem?.mp (h3 x hx j hj)
      refine List.mem_iff_getElem?.mpr ⟨p, ?_⟩
      rw [List.getElem?_take_of_lt, hp]
      have a := List.getElem?_eq_some_iff.mp hi
      have c := List.getElem?_eq_some_iff.mp hp
      obtain ⟨a, ha⟩ := a
      obtain ⟨c, hc⟩ := c
      rcases Nat.lt_trichotomy p i with g | g | g
      · exact g
      · subst g
        rw [ha] at hc
        omega
      · have := List.pairwise_iff_getElem.mp h1 i p a c g
        omega
    · have := h4 x (List.mem_of_getElem? hi) j (List.mem_of_mem_take hj)
      simpa using this
end Mini
namespace Mini
theorem check_number_ok {r : MV → Txt} {K b : Nat} {G : Rb → Nat} {S : BkS} {M : BkM} {x : Int} {st : Store} (hK : 1 ≤ K) (h : BookM st b G S M) (h1 : 1 ≤ x) (h2 : x ≤ S.n) : callK (Wd r) K 4 [.loc b, .int x] st = .ok .non st := by
  obtain ⟨k, rfl⟩ : ∃ k, K = k + 1 := ⟨K - 1, by omega⟩
  rw [callK_eq (g_Book_check_number r) rfl]
  simp [d_Book_check_number, h.t, h.nums, h1, h2]
/-- what the walk of new bars meets -/
def Hit (S : BkS) (ks : List Int) (P D : Nat → Prop) (j : Nat) : Prop := D j ∨ (∃ c, c ∈ ks ∧ S.Wr c.toNat j ∧ ¬P j) ∨ ∃ o, 1 ≤ o ∧ o ≤ S.n ∧ P o ∧ S.Br o j
def NBar (S : BkS) (ks : List Int) (P D : Nat → Prop) (j : Nat) : Prop := Hit S ks P D j ∨ (1 ≤ j ∧ j ≤ S.n ∧ ∃ p, S.Nd j p ∧ Hit S ks P D p)
theorem new_bars_ok {r : MV → Txt} {K b d : Nat} {G : Rb → Nat} {S : BkS} {M : BkM} {kvs : List (Int × MV)} {nd dr : Int} {P D : Nat → Prop} {st : Store} (hK : 2 ≤ K) (h : BookM st b G S M) (hn : S.n ≤ 1000) (hd : cel st d = some (.dct kvs)) (hdn : ∀ r, LiveB S.n r → G r ≠ d)
    (hk : ∀ c : Int, c ∈ kvs.map (·.1) → 0 ≤ c ∧ c < S.cells) (hnd : Msk nd P) (hdr : Msk dr D) :
    ∃ m s, callK (Wd r) K 2 [.loc b, .loc d, .int nd, .int dr] st = .ok (.int m) s ∧ Keep [] st s ∧ Msk m (NBar S (kvs.map (·.1)) P D) := by
  obtain ⟨k, rfl⟩ : ∃ k, K = k + 1 := ⟨K - 1, by omega⟩
  refine OkQ.ex MV.int fun Q hQ => ?_
  rw [callK_eq (g_Book__new_bars r) rfl]
  have hlt := cel_lt hd
  have h1 : BookM (st.set d (.rdc kvs)) b G S M := h.keep Keep.set (fun r hr z => hdn r hr (by simpa using z))
  have hd1 : cel (st.set d (.rdc kvs)) d = some (.rdc kvs) := cel_set _ _ _ hlt
  simp [d_Book__new_bars, okQ_bind, hd, hd1]
  refine okQ_forW (l := kvs.map fun p => .int p.1) (w := []) (fun i e s => s = st.set d (.rdc kvs) ∧ ∃ m, e = [some (.loc b), some (.loc d), some (.int nd), some (.int dr), some (.int m), none, none, none] ∧ Msk m (fun j => D j ∨ ∃ c, c ∈ (kvs.map (·.1)).take i ∧ S.Wr c.toNat j ∧ ¬P j)) (walks_dct hd1 (by simp)) (by simp [Iter.cnt, getD_eq hd1]) (fun i e s h => by rw [h.1]; exact Keep.refl) ⟨rfl, dr, rfl, hdr.congr fun j => by simp⟩ ?_ ?_
  · rintro i x e s hx ⟨rfl, m, rfl, hm⟩
    have e1 : (kvs.map fun p => MV.int p.1) = (kvs.map (·.1)).map .int := by simp
    rw [e1] at hx
    obtain ⟨v, hv, rfl⟩ := getMap hx
    obtain ⟨v0, v1⟩ := hk v (List.mem_of_getElem? hv)
    obtain ⟨n, rfl⟩ := Int.eq_ofNat_of_zero_le v0
    have e2 : ((List.range S.cells).map fun i => MV.int (M.wm i))[n]? = some (.int (M.wm n)) := getF (by omega)
    have mw := h.wm n (by omega)
    have a1 := mw.andInv hnd
    simp [h1.t, h1.wrs, e2, o_band mw.1, o_bor hm.1 a1.1]
    refine (hm.or a1).congr fun j => ?_
    have e3 := take_snoc hv
    constructor
    · rintro ((h | ⟨c, hc, h⟩) | h)
      · exact .inl h
      · exact .inr ⟨c, by rw [e3]; simp [hc], h⟩
      · exact .inr ⟨n, by rw [e3]; simp, by simpa using h⟩
    · rintro (h | ⟨c, hc, h⟩)
      · exact .inl (.inl h)
      · rw [e3] at hc
        rcases List.mem_append.mp hc with hc | hc
        · exact .inl (.inr ⟨c, hc, h⟩)
        · rw [List.mem_singleton] at hc
          subst hc
          exact .inr (by simpa using h)
  · rintro e s ⟨rfl, m, rfl, hm⟩
    rw [List.length_map, show kvs.length = (kvs.map (·.1)).length by simp, List.take_length] at hm
    obtain ⟨lm, s2, f1, k2, f2, f3⟩ := members_ok (r := r) (by omega : 1 ≤ k) h hn hnd
    have hs : (st.set d (.rdc kvs)).set d (.dct kvs) = st := by rw [List.set_set]; exact set_same hd
    have h2 := h.ext k2
    simp [hd1, hs, f1, h.t, okQ_bind]
    refine okQ_forW (l := lm.map .int) (w := []) (fun i e s => s = s2 ∧ ∃ m, e = [some (.loc b), some (.loc d), some (.int nd), some (.int dr), some (.int m), none, none, none] ∧ Msk m (fun j => (D j ∨ ∃ c, c ∈ kvs.map (·.1) ∧ S.Wr c.toNat j ∧ ¬P j) ∨ ∃ o, o ∈ lm.take i ∧ S.Br o.toNat j)) walks_itm (by simp) (fun i e s h => by rw [h.1]; exact Keep.refl) ⟨rfl, m, rfl, hm.congr fun j => by simp⟩ ?_ ?_
    · rintro i x e s hx ⟨rfl, m, rfl, hm⟩
      obtain ⟨v, hv, rfl⟩ := getMap hx
      obtain ⟨v0, v1, v2⟩ := (f2 v).mp (List.mem_of_getElem? hv)
      obtain ⟨n, rfl⟩ := Int.eq_ofNat_of_zero_le (by omega : 0 ≤ v)
      have e2 : ((List.range (S.n + 1)).map fun i => MV.int (M.bm i))[n]? = some (.int (M.bm n)) := getF (by omega)
      have mb := h.bm n (by omega)
      simp [h2.t, h2.brs, e2, o_bor hm.1 mb.1]
      refine (hm.or mb).congr fun j => ?_
      have e4 : ∀ c, (∃ x, (c, x) ∈ kvs) ↔ c ∈ kvs.map (·.1) := by simp
      simp only [e4]
      rw [take_snoc hv]
      constructor
      · rintro ((h | ⟨c, hc, h⟩) | h)
        · exact .inl h
        · exact .inr ⟨c, by simp [hc], h⟩
        · exact .inr ⟨n, by simp, by simpa using h⟩
      · rintro (h | ⟨c, hc, h⟩)
        · exact .inl (.inl h)
        · rcases List.mem_append.mp hc with hc | hc
          · exact .inl (.inr ⟨c, hc, h⟩)
          · rw [List.mem_singleton] at hc
            subst hc
            exact .inr (by simpa using h)
    · rintro e s ⟨rfl, m2, rfl, hm⟩
      rw [List.length_map, List.take_length] at hm
      have hH : Msk m2 (Hit S (kvs.map (·.1)) P D) := hm.congr fun j => by
        unfold Hit
        constructor
        · rintro ((h | h) | ⟨o, ho, h⟩)
          · exact .inl h
          · exact .inr (.inl h)
          · obtain ⟨a, c, g⟩ := (f2 o).mp ho
            exact .inr (.inr ⟨o.toNat, by omega, by omega, g, h⟩)
        · rintro (h | h | ⟨o, a, c, g, h⟩)
          · exact .inl (.inl h)
          · exact .inl (.inr h)
          · exact .inr ⟨o, (f2 o).mpr ⟨by omega, by omega, by simpa using g⟩, by simpa using h⟩
      simp [h2.t, h2.nums, okQ_bind]
      refine okQ_forW (l := (rgI 1 S.n).map .int) (w := []) (fun i e s' => s' = s ∧ ∃ m, e = [some (.loc b), some (.loc d), some (.int nd), some (.int dr), some (.int m2), none, none, some (.int m)] ∧ Msk m (fun j => Hit S (kvs.map (·.1)) P D j ∨ ((j : Int) ∈ (rgI 1 S.n).take i ∧ ∃ p, S.Nd j p ∧ Hit S (kvs.map (·.1)) P D p))) (walks_lst h2.nums (by simp)) (by simp) (fun i e s h => by rw [h.1]; exact Keep.refl) ⟨rfl, m2, rfl, hH.congr fun j => by simp⟩ ?_ ?_
      · rintro i x e s' hx ⟨rfl, m, rfl, hm⟩
        obtain ⟨v, hv, rfl⟩ := getMap hx
        obtain ⟨v0, v1⟩ := mem_rgI.mp (List.mem_of_getElem? hv)
        obtain ⟨n, rfl⟩ := Int.eq_ofNat_of_zero_le (by omega : 0 ≤ v)
        have e2 : ((List.range (S.n + 1)).map fun i => MV.int (M.nm i))[n]? = some (.int (M.nm n)) := getF (by omega)
        have mn := h.nm n (by omega)
        have hn2 : n ≤ 1000000 := by omega
        have a1 := mn.and hH
        have e3 := take_snoc hv
        by_cases c1 : band (M.nm n) m2 = 0
        · simp [h2.t, h2.nds, e2, o_band mn.1, c1]
          refine hm.congr fun j => ?_
          rw [e3, List.mem_append, List.mem_singleton, Int.ofNat_inj]
          constructor
          · rintro (h | ⟨h, g⟩)
            · exact .inl h
            · exact .inr ⟨.inl h, g⟩
          · rintro (h | ⟨h | h, g⟩)
            · exact .inl h
            · exact .inr ⟨h, g⟩
            · subst h
              obtain ⟨p, g1, g2⟩ := g
              exact absurd ⟨g1, g2⟩ (a1.zero_iff.mp c1 p)
        · simp [h2.t, h2.nds, e2, o_band mn.1, c1, shl1 hn2, o_bor hm.1 Msk.one.nn]
          refine (hm.or Msk.one).congr fun j => ?_
          rw [e3, List.mem_append, List.mem_singleton, Int.ofNat_inj]
          have hex : ∃ p, S.Nd n p ∧ Hit S (kvs.map (·.1)) P D p := Classical.byContradiction fun z => c1 (a1.zero_iff.mpr fun p hp => z ⟨p, hp⟩)
          constructor
          · rintro ((h | ⟨h, g⟩) | h)
            · exact .inl h
            · exact .inr ⟨.inl h, g⟩
            · subst h
              exact .inr ⟨.inr rfl, hex⟩
          · rintro (h | ⟨h | h, g⟩)
            · exact .inl (.inl h)
            · exact .inl (.inr ⟨h, g⟩)
            · exact .inr h
      · rintro e s' ⟨rfl, m3, rfl, hm⟩
        rw [List.length_map, List.take_length] at hm
        simp
        refine hQ _ _ ⟨k2, hm.congr fun j => ?_⟩
        unfold NBar
        rw [mem_rgI]
        constructor
        · rintro (h | ⟨h, g⟩)
          · exact .inl h
          · exact .inr ⟨by omega, by omega, g⟩
        · rintro (h | ⟨h1, h2, g⟩)
          · exact .inl h
          · exact .inr ⟨by omega, g⟩
end Mini
namespace Mini
/-- what a patch's writes are kept as -/
def wD (ws : List (Int × Int)) : List (Int × MV) := (sortI (ws.map (·.1))).map fun c => (c, (valD (ws.map fun p => (p.1, MV.int p.2)) c).getD .non)
theorem wD_keys (ws : List (Int × Int)) : (wD ws).map (·.1) = sortI (ws.map (·.1)) := by
  unfold wD
  rw [List.map_map]
  exact List.map_id _
theorem wD_len (ws : List (Int × Int)) : (wD ws).length = ws.length := by
  unfold wD
  rw [List.length_map, sortI_len, List.length_map]
theorem valD_some {kvs : List (Int × MV)} {k : Int} (h : k ∈ kvs.map (·.1)) : ∃ v, valD kvs k = some v := by
  obtain ⟨p, hp, e⟩ := List.mem_map.mp h
  unfold valD
  cases g : kvs.find? fun p => decide (p.1 = k) with
  | some q => exact ⟨q.2, rfl⟩
  | none =>
    have := List.find?_eq_none.mp g p hp
    simp [e] at this
theorem getPrs {l : List (Int × Int)} {i : Nat} {x : MV} (h : (prs l)[i]? = some x) : ∃ a c, l[i]? = some (a, c) ∧ x = .tup [.int a, .int c] := by
  unfold prs at h
  rw [List.getElem?_map] at h
  cases e : l[i]? with
  | none => rw [e] at h; cases h
  | some v => rw [e] at h; exact ⟨v.1, v.2, rfl, (Option.some.inj h).symm⟩
theorem checked_writes_ok {r : MV → Txt} {K w n : Nat} {ws : List (Int × Int)} {st : Store} (hK : 1 ≤ K) (hw : cel st w = some (.lst (prs ws))) (h0 : ws ≠ []) (hl : ws.length < 64) (hc : ∀ p, p ∈ ws → 0 ≤ p.1 ∧ p.1 < n) (hd : (ws.map (·.1)).Nodup) :
    ∃ d s, callK (Wd r) K 9 [.loc w, .int n] st = .ok (.loc d) s ∧ Keep [] st s ∧ st.length ≤ d ∧ cel s d = some (.dct (wD ws)) := by
  obtain ⟨k, rfl⟩ : ∃ k, K = k + 1 := ⟨K - 1, by omega⟩
  refine OkQ.ex MV.loc fun Q hQ => ?_
  rw [callK_eq (g_checked_writes r) rfl]
  have hne : ¬ws.length = 0 := fun z => h0 (List.length_eq_zero_iff.mp z)
  have hpl : (prs ws).length = ws.length := by simp [prs]
  have hpn : (prs ws).length ≠ 0 := by omega
  have hpn2 : prs ws ≠ [] := fun z => hpn (by rw [z]; rfl)
  have hw1 : cel (st ++ [.dct []]) w = some (.lst (prs ws)) := cel_app_old hw
  simp [d_checked_writes, okQ_bind, hw, hw1, hpn, hpn2]
  refine okQ_forW (l := prs ws) (w := [st.length]) (fun i e s => Keep [] st s ∧ Keep [st.length] (st ++ [.dct []]) s ∧ cel s st.length = some (.dct ((ws.take i).map fun p => (p.1, .int p.2))) ∧ ∃ x, e = [some (.loc w), some (.int n), some (.loc st.length), x, none]) (walks_lst hw1 (by have := cel_lt hw; simp; omega)) rfl (fun i e s h => h.2.1) ⟨Keep.new, Keep.refl, by simp, none, rfl⟩ ?_ ?_
  · rintro i x e s hx ⟨k1, k2, hD, y, rfl⟩
    obtain ⟨a, c, hv, rfl⟩ := getPrs hx
    obtain ⟨c0, c1⟩ := hc _ (List.mem_of_getElem? hv)
    have hnew : a ∉ ((ws.take i).map fun p => (p.1, MV.int p.2)).map (·.1) := by
      rw [List.map_map]
      intro z
      obtain ⟨q, hq, e⟩ := List.mem_map.mp z
      obtain ⟨j, hj⟩ := List.mem_iff_getElem?.mp hq
      obtain ⟨g1, g2⟩ := List.getElem?_eq_some_iff.mp hj
      obtain ⟨g3, g4⟩ := List.getElem?_eq_some_iff.mp hv
      rw [List.length_take] at g1
      rw [List.getElem_take] at g2
      have := List.pairwise_iff_getElem.mp hd j i (by simp; omega) (by simpa using g3) (by omega)
      rw [List.getElem_map, List.getElem_map, g2, g4] at this
      exact this e
    have hnew2 : ¬∃ x, (a, x) ∈ ws.take i := by
      rintro ⟨x, hx⟩
      exact hnew (List.mem_map.mpr ⟨(a, .int x), List.mem_map.mpr ⟨(a, x), hx, rfl⟩, rfl⟩)
    have hsm : (ws.take i).length < 16000000 := by rw [List.length_take]; omega
    have hsm2 : ((ws.take i).map fun p => (p.1, MV.int p.2)).length < 16000000 := by rw [List.length_map]; exact hsm
    have hi : decide (a ∈ ((ws.take i).map fun p => (p.1, MV.int p.2)).map (·.1)) = false := decide_eq_false hnew
    simp only [lpTurn_tp2]
    simp [hD, c0, c1, inV, -List.map_take, -List.length_take, -List.map_map]
    rw [hi]
    simp [hD, stV_dct, hsm, -List.map_take, -List.length_take]
    rw [putD_new hnew]
    refine ⟨Keep.setNew k1 (Nat.le_refl _), (k2.trans Keep.set), ?_⟩
    rw [cel_set _ _ _ (cel_lt hD), take_snoc hv, List.map_append]
    rfl
  · rintro e s ⟨k1, k2, hD, y, rfl⟩
    rw [hpl, List.take_length] at hD
    have hlen : (ws.map fun p => (p.1, MV.int p.2)).length < 64 := by rw [List.length_map]; exact hl
    have hks : (ws.map fun p => (p.1, MV.int p.2)).map (·.1) = ws.map (·.1) := by rw [List.map_map]; rfl
    have hso := p_sortedD (C := ⟨callK (Wd r) k, (Wd r).repr, (Wd r).wf⟩) hD hlen
    rw [hks, newL_ok (by rw [List.length_map, sortI_len, List.length_map]; omega)] at hso
    have hD1 : cel (s ++ [.lst ((sortI (ws.map (·.1))).map .int)]) st.length = some (.dct (ws.map fun p => (p.1, MV.int p.2))) := cel_app_old hD
    simp only [okQ_back]
    simp [hso, okQ_bind, -List.map_map]
    refine okQ_dcF (l := sortI (ws.map (·.1))) (w := []) (fun c => (valD (ws.map fun p => (p.1, MV.int p.2)) c).getD .non) (walks_lst (by simp) (by simp)) (by rw [sortI_len, List.length_map]; omega) ((sortI_perm _).nodup_iff.mpr hd) ?_ ?_ (by simp)
    · intro x s' hx k
      have hx2 : x ∈ (ws.map fun p => (p.1, MV.int p.2)).map (·.1) := by rw [hks]; exact mem_sortI.mp hx
      obtain ⟨v, hv⟩ := valD_some hx2
      have e1 := cel_keep k hD1 (by simp)
      simp [e1, hv, Keep.refl]
    · intro s' k h
      refine hQ _ _ ⟨k1.trans (Keep.new.trans k), ?_, h⟩
      have := k1.len
      simp
      omega
end Mini
namespace Mini
def BkS.add (S : BkS) (sz : Int) (ws : List (Int × Int)) (P NB : Nat → Prop) : BkS :=
  { n := S.n + 1, cells := S.cells, base := S.base, sz := fun i => if i = S.n + 1 then sz else S.sz i, dv := fun i => if i = S.n + 1 then wD ws else S.dv i, Nd := fun i => if i = S.n + 1 then P else S.Nd i,
    Br := fun o j => (if o = S.n + 1 then NB else S.Br o) j ∨ (1 ≤ o ∧ o ≤ S.n + 1 ∧ NB o ∧ j = S.n + 1), Wr := fun c j => S.Wr c j ∨ ((c : Int) ∈ ws.map (·.1) ∧ j = S.n + 1) }
def PNd (S : BkS) (rq : List Int) (j : Nat) : Prop := (j : Int) ∈ rq ∨ ∃ o, o ∈ rq ∧ S.Nd o.toNat j
def PBr (S : BkS) (ws : List (Int × Int)) (rq cq : List Int) : Nat → Prop := NBar S (sortI (ws.map (·.1))) (PNd S rq) (fun j => (j : Int) ∈ cq)
def newG (G : Rb → Nat) (n d : Nat) : Rb → Nat := fun r => if r = .v (n + 1) then d else G r
theorem make_patch_ok {r : MV → Txt} {K b w : Nat} {G : Rb → Nat} {S : BkS} {M : BkM} {ws : List (Int × Int)} {rq cq : List Int} {size : Int} {st : Store} (hK : 4 ≤ K) (h : BookM st b G S M) (hn : S.n ≤ 900) (hw : cel st w = some (.lst (prs ws))) (h0 : ws ≠ []) (hl : ws.length < 64)
    (hc : ∀ p, p ∈ ws → 0 ≤ p.1 ∧ p.1 < S.cells) (hd : (ws.map (·.1)).Nodup) (hrq : ∀ x, x ∈ rq → 1 ≤ x ∧ x ≤ S.n) (hcq : ∀ x, x ∈ cq → 1 ≤ x ∧ x ≤ S.n) (hsz : 0 ≤ size) (hno : ∀ j, PBr S ws rq cq j → ¬PNd S rq j) :
    ∃ d s, callK (Wd r) K 1 [.loc b, .loc w, .tup (rq.map MV.int), .tup (cq.map MV.int), .int size] st = .ok (.int ((S.n : Int) + 1)) s ∧ st.length ≤ d ∧ Keep [G .nums, G .vals, G .szs, G .nds, G .brs, G .wrs] st s ∧
      ∃ M', BookM s b (newG G S.n d) (S.add (if 0 < size then size else ws.length) ws (PNd S rq) (PBr S ws rq cq)) M' := by
  obtain ⟨k, rfl⟩ : ∃ k, K = k + 1 := ⟨K - 1, by omega⟩
  suffices ∃ d s, callK (Wd r) (k + 1) 1 [.loc b, .loc w, .tup (rq.map MV.int), .tup (cq.map MV.int), .int size] st = .ok ((fun _ => MV.int ((S.n : Int) + 1)) d) s ∧ st.length ≤ d ∧ Keep [G .nums, G .vals, G .szs, G .nds, G .brs, G .wrs] st s ∧
      ∃ M', BookM s b (newG G S.n d) (S.add (if 0 < size then size else ws.length) ws (PNd S rq) (PBr S ws rq cq)) M' from this
  refine OkQ.ex (fun _ : Nat => MV.int ((S.n : Int) + 1)) fun Q hQ => ?_
  rw [callK_eq (g_Book_make_patch r) rfl]
  obtain ⟨d, s1, e1, k1, hd1, hD⟩ := checked_writes_ok (r := r) (K := k) (n := S.cells) (by omega) hw h0 hl hc hd
  have h1 := h.ext k1
  have hdn : ∀ r, LiveB S.n r → G r ≠ d := fun r hr => by
    have := h.lt hr
    omega
  simp [d_Book_make_patch, okQ_bind, h.t, e1]
  refine okQ_forW (l := rq.map .int) (w := []) (fun i e s => s = s1 ∧ e = [some (.loc b), some (.loc w), some (.tup (rq.map .int)), some (.tup (cq.map .int)), some (.int size), some (.loc d), none, none, none, none, none, none, none]) walks_itm (by simp) (fun i e s h => by rw [h.1]; exact Keep.refl) ⟨rfl, rfl⟩ ?_ ?_
  · rintro i x e s hx ⟨rfl, rfl⟩
    obtain ⟨v, hv, rfl⟩ := getMap hx
    obtain ⟨v0, v1⟩ := hrq v (List.mem_of_getElem? hv)
    simp [h1.t, check_number_ok (r := r) (K := k) (by omega) h1 v0 v1]
  rintro e s ⟨rfl, rfl⟩
  simp [okQ_bind]
  refine okQ_forW (l := cq.map .int) (w := []) (fun i e s' => s' = s ∧ e = [some (.loc b), some (.loc w), some (.tup (rq.map .int)), some (.tup (cq.map .int)), some (.int size), some (.loc d), none, none, none, none, none, none, none]) walks_itm (by simp) (fun i e s h => by rw [h.1]; exact Keep.refl) ⟨rfl, rfl⟩ ?_ ?_
  · rintro i x e s hx ⟨rfl, rfl⟩
    obtain ⟨v, hv, rfl⟩ := getMap hx
    obtain ⟨v0, v1⟩ := hcq v (List.mem_of_getElem? hv)
    simp [h1.t, check_number_ok (r := r) (K := k) (by omega) h1 v0 v1]
  rintro e s ⟨rfl, rfl⟩
  obtain ⟨m1, e2, hm1⟩ := mask_of_ok (r := r) (K := k) (B := b) (l := rq) (st := s) (by omega) (fun x hx => by have := hrq x hx; omega)
  obtain ⟨m2, e3, hm2⟩ := mask_of_ok (r := r) (K := k) (B := b) (l := cq) (st := s) (by omega) (fun x hx => by have := hcq x hx; omega)
  have hsz2 : ¬size < 0 := by omega
  simp [hsz2, h1.t, h1.nums, e2, okQ_bind]
  refine okQ_forW (l := rq.map .int) (w := []) (fun i e s' => s' = s ∧ ∃ m, e = [some (.loc b), some (.loc w), some (.tup (rq.map .int)), some (.tup (cq.map .int)), some (.int size), some (.loc d), none, some (.int ((S.n : Int) + 1)), some (.int m), none, none, none, none] ∧ Msk m (fun j => (j : Int) ∈ rq ∨ ∃ o, o ∈ rq.take i ∧ S.Nd o.toNat j)) walks_itm (by simp) (fun i e s h => by rw [h.1]; exact Keep.refl) ⟨rfl, m1, rfl, hm1.congr fun j => by simp⟩ ?_ ?_
  · rintro i x e s hx ⟨rfl, m, rfl, hm⟩
    obtain ⟨v, hv, rfl⟩ := getMap hx
    obtain ⟨v0, v1⟩ := hrq v (List.mem_of_getElem? hv)
    obtain ⟨n, rfl⟩ := Int.eq_ofNat_of_zero_le (by omega : 0 ≤ v)
    have f2 : ((List.range (S.n + 1)).map fun i => MV.int (M.nm i))[n]? = some (.int (M.nm n)) := getF (by omega)
    have mn := h.nm n (by omega)
    simp [h1.t, h1.nds, f2, o_bor hm.1 mn.1]
    refine (hm.or mn).congr fun j => ?_
    rw [take_snoc hv]
    constructor
    · rintro ((h | ⟨c, hc, h⟩) | h)
      · exact .inl h
      · exact .inr ⟨c, by simp [hc], h⟩
      · exact .inr ⟨n, by simp, by simpa using h⟩
    · rintro (h | ⟨c, hc, h⟩)
      · exact .inl (.inl h)
      · rcases List.mem_append.mp hc with hc | hc
        · exact .inl (.inr ⟨c, hc, h⟩)
        · rw [List.mem_singleton] at hc
          subst hc
          exact .inr (by simpa using h)
  rintro e s ⟨rfl, nd, rfl, hnd⟩
  rw [List.length_map, List.take_length] at hnd
  have hnd' : Msk nd (PNd S rq) := hnd
  obtain ⟨bd, s2, e4, k2, hbd⟩ := new_bars_ok (r := r) (K := k) (by omega) h1 (by omega) hD hdn (by
    intro c hc2
    rw [wD_keys] at hc2
    obtain ⟨p, hp, e⟩ := List.mem_map.mp (mem_sortI.mp hc2)
    rw [← e]
    exact hc p hp) hnd' hm2
  rw [wD_keys] at hbd
  have hbd' : Msk bd (PBr S ws rq cq) := hbd
  have hz : band bd nd = 0 := (hbd'.and hnd').zero_iff.mpr fun j hj => hno j hj.1 hj.2
  have h2 := h1.ext k2
  have hD2 := cel_keep k2 hD (by simp)
  obtain rfl := h.top
  have hlw : (wD ws).length = ws.length := wD_len ws
  obtain ⟨sz, hsz'⟩ : ∃ sz : Int, sz = if 0 < size then size else ws.length := ⟨_, rfl⟩
  rw [← hsz'] at hQ
  have hif : ∀ s', cel s' d = some (.dct (wD ws)) → evE ⟨callK (Wd r) k, (Wd r).repr, (Wd r).wf⟩ (.ite (.op2 .gt (.var 4) (.con (.int 0))) (.var 4) (.prim .len [.var 5])) [some (.loc (G .bk)), some (.loc w), some (.tup (rq.map .int)), some (.tup (cq.map .int)), some (.int size), some (.loc d), none, some (.int ((S.n : Int) + 1)), some (.int nd), some (.int bd), none, none, none] s' = .ok (.int sz) s' := fun s' hs' => by
    by_cases hs0 : 0 < size
    · simp [hs0, hsz']
    · simp [hs0, hsz', hs', hlw]
  have hE := h2.eqs
  have hL := h2.lts
  have hX : ∀ r, LiveB S.n r → (G r = d) = False := fun r hr => eq_false (hdn r hr)
  have b0 : S.n < 16000000 := by omega
  have b1 : S.n + 1 < 16000000 := by omega
  have hnew := h2.put (sz := sz) hD2 hdn hnd' hbd'
  simp [h1.t, e3, e4, o_band hbd'.1, hz, h2.t, -r_ite, hif, h2.nums, h2.vals, h2.szs, h2.nds, h2.brs, appV_ok, b0, b1, cel_set_if, hE, hL, hX, hD2, okQ_bind]
  rw [hif _ (by simp [cel_set_if, hE, hL, hX, hD2])]
  simp only [okQ_back]
  simp [h2.t, h2.szs, h2.nds, h2.brs, appV_ok, b0, b1, cel_set_if, hE, hL, hX, hD2, okQ_bind]
  generalize hs3 : List.set (List.set (List.set (List.set (List.set s2 (G .nums) (.lst ((rgI 1 S.n).map .int ++ [.int (S.n + 1)]))) (G .vals) (.lst (((List.range (S.n + 1)).map fun i => .loc (G (.v i))) ++ [.loc d]))) (G .szs) (.lst (((List.range (S.n + 1)).map fun i => .int (S.sz i)) ++ [.int sz])))
      (G .nds) (.lst (((List.range (S.n + 1)).map fun i => .int (M.nm i)) ++ [.int nd]))) (G .brs) (.lst (((List.range (S.n + 1)).map fun i => .int (M.bm i)) ++ [.int bd])) = s3 at hnew ⊢
  have k3 : Keep [G .nums, G .vals, G .szs, G .nds, G .brs, G .wrs] s2 s3 := by
    rw [← hs3]
    exact ((((Keep.setIn (by simp)).trans (Keep.setIn (by simp))).trans (Keep.setIn (by simp))).trans (Keep.setIn (by simp))).trans (Keep.setIn (by simp))
  clear hs3
  obtain ⟨S1, hS1⟩ : ∃ S1, S1 = S.put sz (wD ws) (PNd S rq) (PBr S ws rq cq) := ⟨_, rfl⟩
  obtain ⟨G1, hG1⟩ : ∃ G1, G1 = newG G S.n d := ⟨_, rfl⟩
  have hnew' : BookM s3 (G .bk) G1 S1 (M.put S.n nd bd) := by rw [hS1, hG1]; exact hnew
  have n1 : S1.n = S.n + 1 := by rw [hS1]; rfl
  have gb : G1 .brs = G .brs := by rw [hG1]; rfl
  have gw : G1 .wrs = G .wrs := by rw [hG1]; rfl
  have gk : G1 .bk = G .bk := by rw [hG1]; rfl
  have gv : G1 (.v (S.n + 1)) = d := by rw [hG1]; simp [newG]
  obtain ⟨lm, s4, e5, k4, hlm, hlml⟩ := members_ok (r := r) (K := k) (by omega) hnew' (by omega) hbd'
  have h4 := hnew'.ext k4
  have hsh : ∀ s, op2 .shl (.int 1) (.int ((S.n : Int) + 1)) s = .ok (.int (2 ^ (S.n + 1))) s := fun s => by
    have := shl1 (n := S.n + 1) (s := s) (by omega)
    simpa using this
  simp [e5]
  refine okQ_forW (l := lm.map .int) (w := [G .brs]) (fun i e s => Keep [G .brs] s4 s ∧ e = [some (.loc (G .bk)), some (.loc w), some (.tup (rq.map .int)), some (.tup (cq.map .int)), some (.int size), some (.loc d), none, some (.int ((S.n : Int) + 1)), some (.int nd), some (.int bd), none, none, none] ∧ ∃ M', BookM s (G .bk) G1 { S1 with Br := fun o j => S1.Br o j ∨ ((o : Int) ∈ lm.take i ∧ j = S.n + 1) } M')
    walks_itm (by simp) (fun i e s h => h.1) ⟨Keep.refl, rfl, _, h4.congr (fun i j _ => Iff.rfl) (fun i j _ => by simp) (fun i j _ => Iff.rfl)⟩ ?_ ?_
  · rintro i x e s hx ⟨ks, rfl, M', hB⟩
    obtain ⟨v, hv, rfl⟩ := getMap hx
    obtain ⟨v0, v1, v2⟩ := (hlm v).mp (List.mem_of_getElem? hv)
    obtain ⟨n, rfl⟩ := Int.eq_ofNat_of_zero_le (by omega : 0 ≤ v)
    have f2 : ((List.range (S1.n + 1)).map fun i => MV.int (M'.bm i))[n]? = some (.int (M'.bm n)) := getF (by omega)
    have mb := hB.bm n (by show n ≤ S1.n; omega)
    have hix : ixN (S1.n + 1) (n : Int) = some n := ixN_nat (by omega)
    have t1 : cel s (G .bk) = some (.ins 0 [(0, .int S1.cells), (1, .loc (G1 .base)), (2, .loc (G1 .nums)), (3, .loc (G1 .vals)), (4, .loc (G1 .szs)), (5, .loc (G1 .nds)), (6, .loc (G1 .brs)), (7, .loc (G1 .wrs))]) := hB.t
    have t2 : cel s (G1 .brs) = some (.lst ((List.range (S1.n + 1)).map fun i => .int (M'.bm i))) := hB.brs
    simp [t1, t2, f2, hsh, o_bor mb.1 Msk.one.nn, hix]
    refine ⟨ks.trans (Keep.setIn (by rw [gb]; simp)), _, (hB.setBr' (o := n) (mb.or (Msk.one (n := S.n + 1)))).congr (fun i j _ => Iff.rfl) (fun o j _ => ?_) (fun i j _ => Iff.rfl)⟩
    rw [take_snoc hv, List.mem_append, List.mem_singleton, Int.ofNat_inj]
    by_cases eo : o = n
    · subst eo
      simp only [if_true]
      constructor
      · rintro ((h | ⟨h, g⟩) | h)
        · exact .inl h
        · exact .inr ⟨.inl h, g⟩
        · exact .inr ⟨.inr trivial, h⟩
      · rintro (h | ⟨_, g⟩)
        · exact .inl (.inl h)
        · exact .inr g
    · simp only [eo, if_false, or_false]
  rintro e s5 ⟨k5, rfl, M5, h5⟩
  rw [List.length_map, List.take_length] at h5
  have h5' := h5.congr (Nd := S1.Nd) (Wr := S1.Wr) (Br := fun o j => S1.Br o j ∨ (1 ≤ o ∧ o ≤ S.n + 1 ∧ PBr S ws rq cq o ∧ j = S.n + 1)) (fun i j _ => Iff.rfl) (fun o j _ => by
    show S1.Br o j ∨ ((o : Int) ∈ lm ∧ j = S.n + 1) ↔ _
    rw [hlm]
    constructor
    · rintro (h | ⟨⟨a, c, g⟩, h⟩)
      · exact .inl h
      · exact .inr ⟨by omega, by omega, by simpa using g, h⟩
    · rintro (h | ⟨a, c, g, h⟩)
      · exact .inl h
      · exact .inr ⟨⟨by omega, by omega, by simpa using g⟩, h⟩) (fun i j _ => Iff.rfl)
  clear h5
  obtain ⟨S2, hS2⟩ : ∃ S2 : BkS, S2 = { S1 with Nd := S1.Nd, Wr := S1.Wr, Br := fun o j => S1.Br o j ∨ (1 ≤ o ∧ o ≤ S.n + 1 ∧ PBr S ws rq cq o ∧ j = S.n + 1) } := ⟨_, rfl⟩
  have h6 : BookM s5 (G .bk) G1 S2 M5 := by rw [hS2]; exact h5'
  clear h5'
  have n2 : S2.n = S.n + 1 := by rw [hS2]; exact n1
  have c2 : S2.cells = S.cells := by rw [hS2, hS1]; rfl
  have w2 : S2.Wr = S.Wr := by rw [hS2, hS1]; rfl
  have dv2 : S2.dv (S.n + 1) = wD ws := by rw [hS2, hS1]; simp [BkS.put]
  have hd5 : cel s5 d = some (.dct (wD ws)) := by
    have := h6.has (.v (S.n + 1)) (by rw [n2]; exact Nat.le_refl _)
    rw [gv] at this
    rw [this]
    simp only [contB, dv2]
  have hd6 : cel (s5.set d (.rdc (wD ws))) d = some (.rdc (wD ws)) := cel_set _ _ _ (cel_lt hd5)
  have hne : ∀ r, LiveB S2.n r → r ≠ .v (S.n + 1) → d ≠ G1 r := fun r hr e z => e (h6.inj _ _ hr (by rw [n2]; exact Nat.le_refl _) (by rw [gv]; exact z.symm))
  have dk : d ≠ G .bk := by rw [← gk]; exact hne .bk trivial (by simp)
  have dw : d ≠ G1 .wrs := hne .wrs trivial (by simp)
  simp [hd5, hd6, okQ_bind]
  refine okQ_forW (l := (wD ws).map fun p => .int p.1) (w := [G .wrs]) (fun i e s => ∃ u M', s = u.set d (.rdc (wD ws)) ∧ Keep [G .wrs] s5 u ∧ e = [some (.loc (G .bk)), some (.loc w), some (.tup (rq.map .int)), some (.tup (cq.map .int)), some (.int size), some (.loc d), none, some (.int ((S.n : Int) + 1)), some (.int nd), some (.int bd), none, none, none] ∧ BookM u (G .bk) G1 { S2 with Wr := fun c j => S2.Wr c j ∨ ((c : Int) ∈ ((wD ws).map (·.1)).take i ∧ j = S.n + 1) } M')
    (walks_dct hd6 (by simp; rw [← gw]; exact dw)) (by simp [Iter.cnt, getD_eq hd6]) (fun i e s h => by obtain ⟨u, M', rfl, k, _⟩ := h; exact k.both (cel_lt hd5)) ⟨s5, M5, rfl, Keep.refl, rfl, h6.congr (fun i j _ => Iff.rfl) (fun i j _ => Iff.rfl) (fun i j _ => by simp)⟩ ?_ ?_
  · rintro i x e s hx ⟨u, M', rfl, ku, rfl, hB⟩
    have e1 : ((wD ws).map fun p => MV.int p.1) = ((wD ws).map (·.1)).map .int := by simp
    rw [e1] at hx
    obtain ⟨v, hv, rfl⟩ := getMap hx
    have hvm : v ∈ ws.map (·.1) := by
      have := List.mem_of_getElem? hv
      rw [wD_keys] at this
      exact mem_sortI.mp this
    obtain ⟨p, hp, ep⟩ := List.mem_map.mp hvm
    obtain ⟨v0, v1⟩ := hc p hp
    rw [ep] at v0 v1
    obtain ⟨n, rfl⟩ := Int.eq_ofNat_of_zero_le v0
    have f2 : ((List.range S2.cells).map fun i => MV.int (M'.wm i))[n]? = some (.int (M'.wm n)) := getF (by omega)
    have mw := hB.wm n (by show n < S2.cells; omega)
    have hix : ixN S2.cells (n : Int) = some n := ixN_nat (by omega)
    have t1 : cel (u.set d (.rdc (wD ws))) (G .bk) = some (.ins 0 [(0, .int S2.cells), (1, .loc (G1 .base)), (2, .loc (G1 .nums)), (3, .loc (G1 .vals)), (4, .loc (G1 .szs)), (5, .loc (G1 .nds)), (6, .loc (G1 .brs)), (7, .loc (G1 .wrs))]) := by rw [cel_set_ne _ _ _ _ dk]; exact hB.t
    have t2 : cel (u.set d (.rdc (wD ws))) (G1 .wrs) = some (.lst ((List.range S2.cells).map fun i => .int (M'.wm i))) := by rw [cel_set_ne _ _ _ _ dw]; exact hB.wrs
    simp only [lpTurn_nm]
    simp [t1, t2, f2, hsh, o_bor mw.1 Msk.one.nn, hix, -List.map_take]
    refine ⟨_, List.set_comm _ _ dw, ku.trans (Keep.setIn (by rw [gw]; simp)), _, (hB.setWr' (o := n) (mw.or (Msk.one (n := S.n + 1)))).congr (fun i j _ => Iff.rfl) (fun i j _ => Iff.rfl) (fun o j _ => ?_)⟩
    rw [take_snoc hv, List.mem_append, List.mem_singleton, Int.ofNat_inj]
    by_cases eo : o = n
    · subst eo
      simp only [if_true]
      constructor
      · rintro ((h | ⟨h, g⟩) | h)
        · exact .inl h
        · exact .inr ⟨.inl h, g⟩
        · exact .inr ⟨.inr trivial, h⟩
      · rintro (h | ⟨_, g⟩)
        · exact .inl (.inl h)
        · exact .inr g
    · simp only [eo, if_false, or_false]
  · rintro e s ⟨u, M6, rfl, ku, rfl, hB⟩
    have e1 : ((wD ws).map fun p => MV.int p.1).length = ((wD ws).map (·.1)).length := by simp
    rw [e1, List.take_length] at hB
    have hdu : cel u d = some (.dct (wD ws)) := by
      have := hB.has (.v (S.n + 1)) (by show S.n + 1 ≤ S2.n; omega)
      rw [gv] at this
      rw [this]
      simp only [contB, dv2]
    have hdu2 : cel (u.set d (.rdc (wD ws))) d = some (.rdc (wD ws)) := cel_set _ _ _ (cel_lt hdu)
    have hback : (u.set d (.rdc (wD ws))).set d (.dct (wD ws)) = u := by rw [List.set_set]; exact set_same hdu
    simp only [okQ_back]
    simp [hdu2, hback]
    refine hQ d u ⟨hd1, ?_, M6, ?_⟩
    · refine k1.weak.trans (k2.weak.trans (k3.trans (k4.weak.trans ((k5.sub ?_).trans (ku.sub ?_)))))
      · intro x hx
        rw [List.mem_singleton] at hx
        simp [hx]
      · intro x hx
        rw [List.mem_singleton] at hx
        simp [hx]
    · rw [hG1] at hB
      have := hB.congr (Nd := S1.Nd) (Br := S2.Br) (Wr := fun c j => S.Wr c j ∨ ((c : Int) ∈ ws.map (·.1) ∧ j = S.n + 1)) (fun i j _ => by rw [hS2]) (fun i j _ => Iff.rfl) (fun c j _ => by
        show S2.Wr c j ∨ _ ↔ _
        rw [wD_keys, mem_sortI, w2])
      rw [hS2, hS1] at this
      exact this
end Mini
namespace Mini
theorem set_new {st t : Store} {x c : Cell} : (st ++ x :: t).set st.length c = st ++ c :: t := by
  simp [List.set_append]
@[simp] theorem putI_nil (f : Nat) (v : MV) : putI f v [] = [(f, v)] := nr rfl
@[simp] theorem putI_cons (f g : Nat) (v x : MV) (r : List (Nat × MV)) : putI f v ((g, x) :: r) = if g = f then (g, v) :: r else (g, x) :: putI f v r := nr rfl
theorem repV_one (x : MV) : ∀ n, repV [x] n = (List.range n).map fun _ => x
  | 0 => rfl
  | n + 1 => by
    show [x] ++ repV [x] n = _
    rw [repV_one x n]
    simp [List.range_succ_eq_map]
def mulV : Option Cell → Int → Store → Out MV
  | some (.lst a), j, st => if -100000 ≤ j ∧ j ≤ 100000 ∧ a.length ≤ 100 then newL (repV a j.toNat) st else .bad
  | _, _, _ => .bad
@[simp] theorem o_mulL (n : Nat) (j : Int) (st : Store) : op2 .mul (.loc n) (.int j) st = mulV (cel st n) j st := by
  unfold cel
  simp only [op2, opMul]
  rcases st[n]? with _ | _ | _ <;> rfl
theorem mulV_ok {a : List MV} {j : Nat} {st : Store} (h : j ≤ 100000) (h2 : a.length ≤ 100) : mulV (some (.lst a)) (j : Int) st = newL (repV a j) st := by
  have : -100000 ≤ (j : Int) ∧ (j : Int) ≤ 100000 ∧ a.length ≤ 100 := ⟨by omega, by omega, h2⟩
  simp only [mulV, if_pos this, Int.toNat_natCast]
def S0 (base : List Int) : BkS := ⟨0, base.length, base, fun _ => 0, fun _ => [], fun _ _ => False, fun _ _ => False, fun _ _ => False⟩
def G0 (L : Nat) : Rb → Nat
  | .bk => L | .base => L + 1 | .nums => L + 2 | .v _ => L + 3 | .vals => L + 4 | .szs => L + 5 | .nds => L + 6 | .brs => L + 7 | .wrs => L + 9
theorem init_ok {r : MV → Txt} {K a : Nat} {base : List Int} {st : Store} (hK : 1 ≤ K) (hb : cel st a = some (.lst (base.map .int))) (h0 : base ≠ []) (hl : base.length ≤ 100) :
    ∃ s M, callK (Wd r) K 0 [.loc st.length, .loc a] (st ++ [.ins 0 []]) = .ok .non s ∧ Keep [] st s ∧ BookM s st.length (G0 st.length) (S0 base) M := by
  obtain ⟨k, rfl⟩ : ∃ k, K = k + 1 := ⟨K - 1, by omega⟩
  suffices ∃ (b : Unit) (s : Store), callK (Wd r) (k + 1) 0 [.loc st.length, .loc a] (st ++ [.ins 0 []]) = .ok ((fun _ => .non) b) s ∧ Keep [] st s ∧ ∃ M, BookM s st.length (G0 st.length) (S0 base) M by
    obtain ⟨_, s, h1, h2, M, h3⟩ := this
    exact ⟨s, M, h1, h2, h3⟩
  refine OkQ.ex (fun _ : Unit => MV.non) fun Q hQ => ?_
  rw [callK_eq (g_Book___init__ r) rfl]
  have hne : ¬(base.length : Int) = 0 := fun z => h0 (List.length_eq_zero_iff.mp (by omega))
  have hlt := cel_lt hb
  have hca : ∀ t, cel (st ++ t) a = some (.lst (base.map .int)) := fun t => by rw [cel_old _ _ _ hlt]; exact hb
  have hL : base.length ≤ 16000000 := by omega
  have hLm : base.length ≤ 100000 := by omega
  simp [d_Book___init__, hca, h0, newL_ok, hL, set_new, sizeMax, mulV_ok, hLm, repV_one]
  refine hQ () _ ⟨Keep.new, ⟨fun _ => 0, fun _ => 0, fun _ => 0⟩, rfl, fun r hr => ?_, fun r s hr hs e => ?_, fun i _ => Msk.zero, fun i _ => Msk.zero, fun i _ => Msk.zero⟩
  · cases r with
    | v i =>
      have : i = 0 := by
        have : i ≤ 0 := hr
        omega
      subst this
      simp [G0, contB, S0]
    | nums => simp [G0, contB, S0, rgI]
    | _ => simp [G0, contB, S0]
  · have hv : ∀ i, LiveB (S0 base).n (.v i) → i = 0 := fun i h => by
      have : i ≤ 0 := h
      omega
    cases r <;> cases s <;> simp only [G0] at e <;> first | rfl | omega | (rw [hv _ hr, hv _ hs])
end Mini
namespace Mini
theorem fin0 {f : Nat → MV} {n x : Nat} (h : x < n) : ((List.range n).map f)[x]? = some (f x) := getF h
/-- does a number fit to what is taken -/
def Fits (M : Md) (tk : List Int) (i : Nat) : Prop := (∀ o, o ∈ M.N i → o ∈ tk) ∧ ∀ o, o ∈ M.B i → o ∉ tk
open Classical in
theorem fits_ok {r : MV → Txt} {K m t i : Nat} {A : Rl → Nat} {M : Md} {tk : List Int} {st : Store} (hK : 1 ≤ K) (h : ModelAt st m A M) (ht : cel st t = some (.lst (tk.map .int))) (hi : i ≤ M.n) :
    callK (Wd r) K 18 [.loc m, .loc t, .int i] st = .ok (.bl (decide (Fits M tk i))) st := by
  obtain ⟨k, rfl⟩ : ∃ k, K = k + 1 := ⟨K - 1, by omega⟩
  refine OkQ.eq fun Q hQ => ?_
  rw [callK_eq (g__law_fits r) rfl]
  have fN : ((List.range (M.n + 1)).map fun i => MV.loc (A (.n i)))[i]? = some (.loc (A (.n i))) := getF (by omega)
  have fB : ((List.range (M.n + 1)).map fun i => MV.loc (A (.b i)))[i]? = some (.loc (A (.b i))) := getF (by omega)
  simp [d__law_fits, h.t, h.nl, h.bl, fN, h.ni hi, okQ_bind]
  refine okQ_forW (l := (M.N i).map .int) (w := []) (fun j e s => s = st ∧ e = [some (.loc m), some (.loc t), some (.int i), none] ∧ ∀ o, o ∈ (M.N i).take j → o ∈ tk) (walks_lst (h.ni hi) (by simp)) (by simp) (fun i e s h => by rw [h.1]; exact Keep.refl) ⟨rfl, rfl, by simp⟩ ?_ ?_
  · rintro j x e s hx ⟨rfl, rfl, hp⟩
    obtain ⟨v, hv, rfl⟩ := getMap hx
    by_cases c : v ∈ tk
    · simp [ht, c]
      intro o ho
      rw [take_snoc hv] at ho
      rcases List.mem_append.mp ho with ho | ho
      · exact hp o ho
      · rw [List.mem_singleton.mp ho]
        exact c
    · have hn : ¬Fits M tk i := fun g => c (g.1 v (List.mem_of_getElem? hv))
      rw [decide_eq_false hn] at hQ
      simp [ht, c]
      exact hQ
  rintro e s ⟨rfl, rfl, hp⟩
  rw [List.length_map, List.take_length] at hp
  simp [h.t, h.bl, fB, h.bi hi, okQ_bind]
  refine okQ_forW (l := (M.B i).map .int) (w := []) (fun j e s' => s' = s ∧ e = [some (.loc m), some (.loc t), some (.int i), none] ∧ ∀ o, o ∈ (M.B i).take j → o ∉ tk) (walks_lst (h.bi hi) (by simp)) (by simp) (fun i e s h => by rw [h.1]; exact Keep.refl) ⟨rfl, rfl, by simp⟩ ?_ ?_
  · rintro j x e s hx ⟨rfl, rfl, hp2⟩
    obtain ⟨v, hv, rfl⟩ := getMap hx
    by_cases c : v ∈ tk
    · have hn : ¬Fits M tk i := fun g => g.2 v (List.mem_of_getElem? hv) c
      rw [decide_eq_false hn] at hQ
      simp [ht, c]
      exact hQ
    · simp [ht, c]
      intro o ho
      rw [take_snoc hv] at ho
      rcases List.mem_append.mp ho with ho | ho
      · exact hp2 o ho
      · rw [List.mem_singleton.mp ho]
        exact c
  rintro e s ⟨rfl, rfl, hp2⟩
  rw [List.length_map, List.take_length] at hp2
  have hy : Fits M tk i := ⟨hp, hp2⟩
  rw [decide_eq_true hy] at hQ
  simp
  exact hQ
/-- what a number of a tuple must keep to for the law -/
def OkAt (M : Md) (t : List Int) (j : Nat) : Prop := ∃ x, t[j]? = some x ∧ 1 ≤ x ∧ x ≤ M.n ∧ (∀ y, 0 < j → t[j - 1]? = some y → y < x) ∧ (∀ o, o ∈ M.N x.toNat → o ∈ t) ∧ ∀ o, o ∈ M.B x.toNat → o ∉ t
def VerM (M : Md) (t : List Int) : Prop := ∀ j, j < t.length → OkAt M t j
open Classical in
theorem is_version_ok {r : MV → Txt} {K m : Nat} {A : Rl → Nat} {M : Md} {t : List Int} {st : Store} (hK : 1 ≤ K) (h : ModelAt st m A M) (hlN : ∀ i, i ≤ M.n → (M.N i).length ≤ 16000000) (hlB : ∀ i, i ≤ M.n → (M.B i).length ≤ 16000000) (hl : t.length ≤ 1000) :
    ∃ s, callK (Wd r) K 23 [.loc m, .tup (t.map MV.int)] st = .ok (.bl (decide (VerM M t))) s ∧ Keep [] st s := by
  obtain ⟨k, rfl⟩ : ∃ k, K = k + 1 := ⟨K - 1, by omega⟩
  suffices ∃ (_ : Unit) (s : Store), callK (Wd r) (k + 1) 23 [.loc m, .tup (t.map MV.int)] st = .ok (.bl (decide (VerM M t))) s ∧ Keep [] st s by
    obtain ⟨_, s, h1, h2⟩ := this
    exact ⟨s, h1, h2⟩
  refine OkQ.ex (fun _ : Unit => MV.bl (decide (VerM M t))) fun Q hQ' => ?_
  have hQ := hQ' ()
  rw [callK_eq (g__law_is_version r) rfl]
  simp [d__law_is_version, okQ_bind]
  rw [mk_r1 (by omega) (by omega)]
  simp
  refine okQ_forW (l := (rgI 0 t.length).map .int) (w := []) (fun j e s => Keep [] st s ∧ e = [some (.loc m), some (.tup (t.map .int)), none, none, none] ∧ ∀ i, i < j → OkAt M t i) walks_rng1 (by simp) (fun i e s h => h.1) ⟨Keep.refl, rfl, by simp⟩ ?_ ?_
  · rintro j x e s hx ⟨ks, rfl, hp⟩
    obtain ⟨v, hv, rfl⟩ := getMap hx
    have hj : j < t.length := by
      have := (List.getElem?_eq_some_iff.mp hv).1
      simpa using this
    have ev : v = j := by
      have : (rgI 0 t.length)[j]? = some (0 + (j : Int)) := by simp [rgI, hj]
      rw [this] at hv
      have := Option.some.inj hv
      omega
    subst ev
    have hs := h.ext ks
    have no : ¬OkAt M t j → ∀ s', Keep [] s s' → Q (.bl false) s' := fun g s' ks' => by
      have := hQ s' (ks.trans ks')
      rwa [decide_eq_false (fun z => g (z j hj))] at this
    have ex : t[j]? = some t[j] := List.getElem?_eq_getElem hj
    have exm : (t.map MV.int)[j]? = some (.int t[j]) := by rw [List.getElem?_map, ex]; rfl
    generalize hxv : t[j] = x at ex exm
    by_cases c1 : x < 1 ∨ (M.n + 1 : Int) ≤ x
    · have g : ¬OkAt M t j := fun ⟨y, e, a, c, _⟩ => by
        rw [ex] at e
        cases e
        omega
      have := no g s Keep.refl
      by_cases c2 : x < 1
      · simp [exm, c2]
        exact this
      · have c3 : (M.n + 1 : Int) ≤ x := by omega
        simp [exm, c2, hs.t, hs.wl, c3]
        exact this
    · have c2 : ¬x < 1 := by omega
      have c3 : ¬(M.n + 1 : Int) ≤ x := by omega
      obtain ⟨n, rfl⟩ := Int.eq_ofNat_of_zero_le (by omega : 0 ≤ x)
      have hn : n ≤ M.n := by omega
      have fN : ((List.range (M.n + 1)).map fun i => MV.loc (A (.n i)))[n]? = some (.loc (A (.n n))) := getF (by omega)
      have fB : ((List.range (M.n + 1)).map fun i => MV.loc (A (.b i)))[n]? = some (.loc (A (.b n))) := getF (by omega)
      obtain ⟨f1, hf1⟩ : ∃ f1, f1 = (M.N n).filter fun o => !decide (o ∈ t) := ⟨_, rfl⟩
      obtain ⟨f2, hf2⟩ : ∃ f2, f2 = (M.B n).filter fun o => decide (o ∈ t) := ⟨_, rfl⟩
      have hf1' : f1 = [] ↔ ∀ o, o ∈ M.N n → o ∈ t := by rw [hf1, List.filter_eq_nil_iff]; simp
      have hf2' : f2 = [] ↔ ∀ o, o ∈ M.B n → o ∉ t := by rw [hf2, List.filter_eq_nil_iff]; simp
      have ev1 : evE ⟨callK (Wd r) k, (Wd r).repr, (Wd r).wf⟩ (.lcS (.nm 4) (.op2 .ix (.op2 .ix (.var 0) (.con (.int 3))) (.var 3)) [.op2 .notIn (.var 4) (.var 1)] (.var 4)) [some (.loc m), some (.tup (t.map .int)), some (.int j), some (.int n), none] s = .ok (.loc s.length) (s ++ [.lst (f1.map .int)]) := by
        rw [hf1]
        exact ev_filt (xs := M.N n) (a := A (.n n)) _ (by simp [hs.t, hs.nl, fN]) (hs.ni hn) (hlN n hn) (fun x acc _ => by simp) (by simp)
      have ev2 : ∀ acc, evE ⟨callK (Wd r) k, (Wd r).repr, (Wd r).wf⟩ (.lcS (.nm 4) (.op2 .ix (.op2 .ix (.var 0) (.con (.int 4))) (.var 3)) [.op2 .inn (.var 4) (.var 1)] (.var 4)) [some (.loc m), some (.tup (t.map .int)), some (.int j), some (.int n), none] (s ++ acc) = .ok (.loc (s ++ acc).length) ((s ++ acc) ++ [.lst (f2.map .int)]) := fun acc => by
        have hs2 := hs.ext (Keep.new (t := acc))
        rw [hf2]
        exact ev_filt (xs := M.B n) (a := A (.b n)) _ (by simp [hs2.t, hs2.bl, fB]) (hs2.bi hn) (hlB n hn) (fun x acc _ => by simp) (by simp)
      obtain ⟨lb, hlb⟩ : ∃ lb : Bool, lb = decide (¬∀ y, 0 < j → t[j - 1]? = some y → y < (n : Int)) := ⟨_, rfl⟩
      have et : tst ⟨callK (Wd r) k, (Wd r).repr, (Wd r).wf⟩ (.and (.op2 .gt (.var 2) (.con (.int 0))) (.op2 .ge (.op2 .ix (.var 1) (.op2 .sub (.var 2) (.con (.int 1)))) (.var 3))) [some (.loc m), some (.tup (t.map .int)), some (.int j), some (.int n), none] s = .ok lb s := by
        rw [hlb]
        rcases j with _ | p
        · simp
        · have e1 : t[p]? = some t[p] := List.getElem?_eq_getElem (by omega)
          have e2 : (t.map MV.int)[p]? = some (.int t[p]) := by rw [List.getElem?_map, e1]; rfl
          have e3 : ((p + 1 : Nat) : Int) - 1 = (p : Int) := by omega
          have e4 : (0 : Int) < ((p + 1 : Nat) : Int) := by omega
          simp [e4, e3, e2, e1, -Int.natCast_add]
      have base : OkAt M t j ↔ (lb = false ∧ f1 = [] ∧ f2 = []) := by
        rw [hf1', hf2', hlb, decide_eq_false_iff_not, Classical.not_not]
        constructor
        · rintro ⟨y, e, a, c, d, g1, g2⟩
          rw [ex] at e
          cases e
          exact ⟨d, by simpa using g1, by simpa using g2⟩
        · rintro ⟨d, g1, g2⟩
          exact ⟨n, ex, by omega, by omega, d, by simpa using g1, by simpa using g2⟩
      clear hlb hf1 hf2 hf1' hf2'
      cases lb with
      | true =>
        have := no (by rw [base]; simp) s Keep.refl
        simp [exm, c2, hs.t, hs.wl, c3, -t_and, et]
        exact this
      | false =>
        by_cases h1 : f1 = []
        · by_cases h2 : f2 = []
          · simp [exm, c2, hs.t, hs.wl, c3, -t_and, et, -r_lcS, ev1, ev2, h1, h2]
            refine ⟨ks.trans Keep.new, fun i hi => ?_⟩
            by_cases e : i = j
            · rw [e, base]
              exact ⟨rfl, h1, h2⟩
            · exact hp i (by omega)
          · have := no (by rw [base]; simp [h2])
            simp [exm, c2, hs.t, hs.wl, c3, -t_and, et, -r_lcS, ev1, ev2, h1, h2, List.length_pos_iff]
            exact this _ Keep.new
        · have := no (by rw [base]; simp [h1])
          simp [exm, c2, hs.t, hs.wl, c3, -t_and, et, -r_lcS, ev1, h1, List.length_pos_iff]
          exact this _ Keep.new
  · rintro e s ⟨ks, rfl, hp⟩
    rw [List.length_map, rgI_len] at hp
    have hy : VerM M t := hp
    have := hQ s ks
    rw [decide_eq_true hy] at this
    simp
    exact this
end Mini
namespace Mini
/-- what a patch with these demands needs -/
def needL (M : Md) (dem : List Int) : List Int := (rgI 1 M.n).filter fun x => decide (x ∈ dem) || dem.any fun o => decide (x ∈ M.N o.toNat)
theorem mem_needL {M : Md} {dem : List Int} {x : Int} : x ∈ needL M dem ↔ (1 ≤ x ∧ x ≤ M.n) ∧ (x ∈ dem ∨ ∃ o, o ∈ dem ∧ x ∈ M.N o.toNat) := by
  unfold needL
  rw [List.mem_filter, mem_rgI, Bool.or_eq_true, decide_eq_true_eq, List.any_eq_true]
  simp only [decide_eq_true_eq]
  constructor
  · rintro ⟨a, b⟩
    exact ⟨by omega, b⟩
  · rintro ⟨a, b⟩
    exact ⟨by omega, b⟩
theorem filter_pos {α : Type} (p : α → Bool) (l : List α) : (0 < (l.filter p).length) ↔ l.any p = true := by
  rw [← any_len, decide_eq_true_eq]
  omega
theorem needs_ok {r : MV → Txt} {K m d : Nat} {A : Rl → Nat} {M : Md} {dem : List Int} {st : Store} (hK : 1 ≤ K) (h : ModelAt st m A M) (hn : M.n ≤ 1000) (hd : cel st d = some (.lst (dem.map .int))) (hl : dem.length ≤ 1000) (hdm : ∀ o, o ∈ dem → 1 ≤ o ∧ o ≤ M.n) :
    ∃ a s, callK (Wd r) K 12 [.loc m, .loc d] st = .ok (.loc a) s ∧ Keep [] st s ∧ st.length ≤ a ∧ cel s a = some (.lst ((needL M dem).map .int)) := by
  obtain ⟨k, rfl⟩ : ∃ k, K = k + 1 := ⟨K - 1, by omega⟩
  refine OkQ.ex MV.loc fun Q hQ => ?_
  rw [callK_eq (g__law_needs r) rfl]
  simp [d__law_needs, h.t, h.wl, okQ_bind]
  rw [mk_r2 (by omega) (by omega) (by omega) (by omega)]
  have e0 : ((M.n : Int) + 1 - 1).toNat = M.n := by omega
  simp [e0]
  refine okQ_lcI (l := rgI 1 M.n) (w := []) (fun x => decide (x ∈ dem) || dem.any fun o => decide (x ∈ M.N o.toNat)) .int walks_rng1 (by rw [rgI_len]; omega) ?_ ?_ (by simp)
  · intro x s hx ks
    have hs := h.ext ks
    have hds := cel_keep ks hd (by simp)
    by_cases c : x ∈ dem
    · simp [hds, c, Keep.refl]
    · have ev1 : evE ⟨callK (Wd r) k, (Wd r).repr, (Wd r).wf⟩ (.lcS (.nm 3) (.var 1) [.op2 .inn (.var 2) (.op2 .ix (.op2 .ix (.var 0) (.con (.int 3))) (.var 3))] (.var 3)) [some (.loc m), some (.loc d), some (.int x), none] s = .ok (.loc s.length) (s ++ [.lst ((dem.filter fun o => decide (x ∈ M.N o.toNat)).map .int)]) :=
        ev_filt (xs := dem) (a := d) _ (by simp) hds (by omega) (fun y acc hy => by
          have hs2 := hs.ext (Keep.new (t := [.lst acc]))
          obtain ⟨y0, y1⟩ := hdm y hy
          obtain ⟨n, rfl⟩ := Int.eq_ofNat_of_zero_le (by omega : 0 ≤ y)
          have fN : ((List.range (M.n + 1)).map fun i => MV.loc (A (.n i)))[n]? = some (.loc (A (.n n))) := getF (by omega)
          simp [hs2.t, hs2.nl, fN, hs2.ni (show n ≤ M.n by omega)]) (by simp)
      have ep := any_len (fun o => decide (x ∈ M.N o.toNat)) dem
      by_cases c2 : (dem.any fun o => decide (x ∈ M.N o.toNat)) = true
      · rw [c2, decide_eq_true_eq] at ep
        have ep' : 0 < (dem.filter fun o => decide (x ∈ M.N o.toNat)).length := by omega
        simp only [lcTurn_nm, t_s1]
        simp [hds, c, -r_lcS, ev1, ep, ep', c2, Keep.new, -List.any_eq_true, -List.length_pos_iff]
      · have c3 : (dem.any fun o => decide (x ∈ M.N o.toNat)) = false := by simpa using c2
        rw [c3, decide_eq_false_iff_not] at ep
        have ep' : ¬0 < (dem.filter fun o => decide (x ∈ M.N o.toNat)).length := by omega
        simp only [lcTurn_nm, t_s1]
        simp [hds, c, -r_lcS, ev1, ep, ep', c3, Keep.new, -List.any_eq_true, -List.length_pos_iff, -List.any_eq_false]
  · intro s ks hs
    exact hQ _ _ ⟨ks, Nat.le_refl _, hs⟩
end Mini
namespace Mini
def keysW (ws : List (Int × Int)) : List Int := ws.map (·.1)
def sharedB (M : Md) (ws : List (Int × Int)) (x : Int) : Bool := (M.W x.toNat).any fun p => decide (p.1 ∈ keysW ws)
def hitB (M : Md) (ws : List (Int × Int)) (nd q : List Int) (x : Int) : Bool := decide (x ∈ q) || (nd.any (fun o => decide (x ∈ M.B o.toNat)) || (sharedB M ws x && !decide (x ∈ nd)))
def hitL (M : Md) (ws : List (Int × Int)) (nd q : List Int) : List Int := (rgI 1 M.n).filter (hitB M ws nd q)
/-- the bars of a new patch -/
def barL (M : Md) (ws : List (Int × Int)) (nd q : List Int) : List Int := (rgI 1 M.n).filter fun x => decide (x ∈ hitL M ws nd q) || (M.N x.toNat).any fun o => decide (o ∈ hitL M ws nd q)
def fst' : MV → MV
  | .tup (a :: _) => a
  | _ => .non
def inK (ks : List Int) : MV → Bool
  | .tup (.int a :: _) => decide (a ∈ ks)
  | _ => false
theorem prs_fst (ws : List (Int × Int)) : (prs ws).map fst' = (keysW ws).map .int := by
  unfold prs keysW
  rw [List.map_map, List.map_map]
  rfl
theorem prs_any (ws : List (Int × Int)) (ks : List Int) : (prs ws).any (inK ks) = ws.any fun p => decide (p.1 ∈ ks) := by
  unfold prs
  rw [List.any_map]
  rfl
theorem filter_pos' {α : Type} (p : α → Bool) (l : List α) : (0 < (l.filter p).length) = (l.any p = true) := propext (filter_pos p l)
theorem bars_ok {r : MV → Txt} {K m w d q : Nat} {A : Rl → Nat} {M : Md} {ws : List (Int × Int)} {nd ql : List Int} {st : Store} (hK : 1 ≤ K) (h : ModelAt st m A M) (hn : M.n ≤ 1000) (hw : cel st w = some (.lst (prs ws))) (hd : cel st d = some (.lst (nd.map .int))) (hq : cel st q = some (.lst (ql.map .int)))
    (hl : nd.length ≤ 1000) (hlw : ws.length ≤ 1000) (hlW : ∀ i, i ≤ M.n → (M.W i).length ≤ 1000) (hlN : ∀ i, i ≤ M.n → (M.N i).length ≤ 1000) (hdm : ∀ o, o ∈ nd → 1 ≤ o ∧ o ≤ M.n) :
    ∃ a s, callK (Wd r) K 13 [.loc m, .loc w, .loc d, .loc q] st = .ok (.loc a) s ∧ Keep [] st s ∧ st.length ≤ a ∧ cel s a = some (.lst ((barL M ws nd ql).map .int)) := by
  obtain ⟨k, rfl⟩ : ∃ k, K = k + 1 := ⟨K - 1, by omega⟩
  refine OkQ.ex MV.loc fun Q hQ => ?_
  rw [callK_eq (g__law_bars r) rfl]
  have h1 := h.ext (Keep.new (t := [.lst []]))
  simp [d__law_bars, newL_ok, h1.t, h1.wl, okQ_bind]
  rw [mk_r2 (by omega) (by omega) (by omega) (by omega)]
  have e0 : ((M.n : Int) + 1 - 1).toNat = M.n := by omega
  simp [e0]
  refine okQ_forW (l := (rgI 1 M.n).map .int) (w := [st.length]) (fun i e s => Keep [] st s ∧ Keep [st.length] (st ++ [.lst []]) s ∧ cel s st.length = some (.lst ((((rgI 1 M.n).take i).filter (hitB M ws nd ql)).map .int)) ∧ ∃ x, e = [some (.loc m), some (.loc w), some (.loc d), some (.loc q), some (.loc st.length), x, none, none, none, none, none])
    walks_rng1 (by simp) (fun i e s h => h.2.1) ⟨Keep.new, Keep.refl, by simp, none, rfl⟩ ?_ ?_
  · rintro i x e s hx ⟨k1, k2, hH, y, rfl⟩
    obtain ⟨v, hv, rfl⟩ := getMap hx
    obtain ⟨v0, v1⟩ := mem_rgI.mp (List.mem_of_getElem? hv)
    obtain ⟨n, rfl⟩ := Int.eq_ofNat_of_zero_le (by omega : 0 ≤ v)
    have hn1 : n ≤ M.n := by omega
    have hs := h.ext k1
    have fW : ((List.range (M.n + 1)).map fun i => MV.loc (A (.w i)))[n]? = some (.loc (A (.w n))) := getF (by omega)
    simp [hs.t, hs.wl, fW, hs.wi hn1]
    simp only [okQ_bind]
    refine okQ_lcF (l := prs (M.W n)) (w := []) (inK (keysW ws)) id (walks_lst (hs.wi hn1) (by simp)) (by have := hlW n hn1; simp [prs]; omega) ?_ ?_ (by simp)
    · intro z s1 hz ks1
      obtain ⟨j, hj⟩ := List.mem_iff_getElem?.mp hz
      obtain ⟨a, c, hac, rfl⟩ := getPrs hj
      have hw1 : cel s1 w = some (.lst (prs ws)) := cel_keep ks1 (cel_keep k1 hw (by simp)) (by simp)
      have ev1 : evE ⟨callK (Wd r) k, (Wd r).repr, (Wd r).wf⟩ (.lcS (.nm 8) (.var 1) [] (.op2 .ix (.var 8) (.con (.int 0)))) [some (.loc m), some (.loc w), some (.loc d), some (.loc q), some (.loc st.length), some (.int n), none, some (.tup [.int a, .int c]), none, none, none] s1 = .ok (.loc s1.length) (s1 ++ [.lst ((keysW ws).map .int)]) := by
        rw [← prs_fst]
        exact ev_map fst' (by simp) hw1 (by simp [prs]; omega) (fun x acc hx => by
          obtain ⟨j, hj⟩ := List.mem_iff_getElem?.mp hx
          obtain ⟨a, c, hac, rfl⟩ := getPrs hj
          simp [fst'])
      simp [-r_lcS, ev1, inK, Keep.new]
      by_cases c1 : a ∈ keysW ws
      · simp [c1, Keep.new]
      · simp [c1, Keep.new]
    · intro s1 ks1 hs1
      have hs2 := hs.ext ks1
      have hd1 : cel s1 d = some (.lst (nd.map .int)) := cel_keep ks1 (cel_keep k1 hd (by simp)) (by simp)
      have hq1 : cel s1 q = some (.lst (ql.map .int)) := cel_keep ks1 (cel_keep k1 hq (by simp)) (by simp)
      have ev2 : ∀ b, evE ⟨callK (Wd r) k, (Wd r).repr, (Wd r).wf⟩ (.lcS (.nm 10) (.var 2) [.op2 .inn (.var 5) (.op2 .ix (.op2 .ix (.var 0) (.con (.int 4))) (.var 10))] (.var 10)) [some (.loc m), some (.loc w), some (.loc d), some (.loc q), some (.loc st.length), some (.int n), some (.bl b), none, none, none, none] s1 = .ok (.loc s1.length) (s1 ++ [.lst ((nd.filter fun o => decide ((n : Int) ∈ M.B o.toNat)).map .int)]) := fun b =>
        ev_filt (xs := nd) (a := d) _ (by simp) hd1 (by omega) (fun y acc hy => by
          have hs3 := hs2.ext (Keep.new (t := [.lst acc]))
          obtain ⟨y0, y1⟩ := hdm y hy
          obtain ⟨p, rfl⟩ := Int.eq_ofNat_of_zero_le (by omega : 0 ≤ y)
          have fB : ((List.range (M.n + 1)).map fun i => MV.loc (A (.b i)))[p]? = some (.loc (A (.b p))) := getF (by omega)
          simp [hs3.t, hs3.bl, fB, hs3.bi (show p ≤ M.n by omega)]) (by simp)
      obtain ⟨sb, hsb⟩ : ∃ sb, sb = sharedB M ws n := ⟨_, rfl⟩
      obtain ⟨db, hdb⟩ : ∃ db, db = nd.any (fun o => decide ((n : Int) ∈ M.B o.toNat)) := ⟨_, rfl⟩
      have g1 : (0 < ((prs (M.W n)).filter (inK (keysW ws))).length) = (sb = true) := by
        rw [filter_pos', prs_any, hsb]
        rfl
      have g2 : (0 < (nd.filter fun o => decide ((n : Int) ∈ M.B o.toNat)).length) = (db = true) := by rw [filter_pos', hdb]
      have hq2 : cel (s1 ++ [.lst ((nd.filter fun o => decide ((n : Int) ∈ M.B o.toNat)).map .int)]) q = some (.lst (ql.map .int)) := cel_app_old hq1
      have hd2 : cel (s1 ++ [.lst ((nd.filter fun o => decide ((n : Int) ∈ M.B o.toNat)).map .int)]) d = some (.lst (nd.map .int)) := cel_app_old hd1
      have hH2 : cel (s1 ++ [.lst ((nd.filter fun o => decide ((n : Int) ∈ M.B o.toNat)).map .int)]) st.length = some (.lst ((((rgI 1 M.n).take i).filter (hitB M ws nd ql)).map .int)) := cel_app_old (cel_keep ks1 hH (by simp))
      have et : tst ⟨callK (Wd r) k, (Wd r).repr, (Wd r).wf⟩ (.or (.op2 .inn (.var 5) (.var 3)) (.or (.var 9) (.and (.var 6) (.op2 .notIn (.var 5) (.var 2))))) [some (.loc m), some (.loc w), some (.loc d), some (.loc q), some (.loc st.length), some (.int n), some (.bl sb), none, none, some (.bl db), none] (s1 ++ [.lst ((nd.filter fun o => decide ((n : Int) ∈ M.B o.toNat)).map .int)]) = .ok (hitB M ws nd ql n) (s1 ++ [.lst ((nd.filter fun o => decide ((n : Int) ∈ M.B o.toNat)).map .int)]) := by
        unfold hitB
        rw [← hsb, ← hdb]
        by_cases c1 : (n : Int) ∈ ql
        · simp [hq2, c1]
        · by_cases c2 : (n : Int) ∈ nd
          · cases db <;> cases sb <;> simp [hq2, hd2, c1, c2]
          · cases db <;> cases sb <;> simp [hq2, hd2, c1, c2]
      have hk3 : Keep [] st (s1 ++ [.lst ((nd.filter fun o => decide ((n : Int) ∈ M.B o.toNat)).map .int)]) := k1.trans (ks1.trans Keep.new)
      have hk4 : Keep [st.length] (st ++ [.lst []]) (s1 ++ [.lst ((nd.filter fun o => decide ((n : Int) ∈ M.B o.toNat)).map .int)]) := k2.trans (ks1.weak.trans Keep.new.weak)
      have hfl : (((rgI 1 M.n).take i).filter (hitB M ws nd ql)).length < 16000000 := by
        have := List.length_filter_le (hitB M ws nd ql) ((rgI 1 M.n).take i)
        rw [List.length_take, rgI_len] at this
        omega
      have e3 : ((rgI 1 M.n).take (i + 1)).filter (hitB M ws nd ql) = ((rgI 1 M.n).take i).filter (hitB M ws nd ql) ++ [(n : Int)].filter (hitB M ws nd ql) := by rw [take_snoc hv, List.filter_append]
      simp only [okQ_back]
      by_cases c : hitB M ws nd ql n = true
      · simp [hs1, g1, -r_lcS, ev2, g2, -t_or, et, c, hH2, appV_ok, hfl]
        refine ⟨hk3.setNew (Nat.le_refl _), hk4.trans Keep.set, ?_⟩
        rw [cel_set _ _ _ (cel_lt hH2), e3]
        simp [c]
      · simp [hs1, g1, -r_lcS, ev2, g2, -t_or, et, c]
        refine ⟨hk3, hk4, ?_⟩
        rw [hH2, e3]
        simp [c]
  · rintro e s ⟨k1, k2, hH, y, rfl⟩
    rw [List.length_map, List.take_length] at hH
    have hH' : cel s st.length = some (.lst ((hitL M ws nd ql).map .int)) := hH
    have hs := h.ext k1
    simp only [okQ_back]
    simp [hs.t, hs.wl, okQ_bind]
    rw [mk_r2 (by omega) (by omega) (by omega) (by omega)]
    simp [e0]
    refine okQ_lcI (l := rgI 1 M.n) (w := []) (fun x => decide (x ∈ hitL M ws nd ql) || (M.N x.toNat).any fun o => decide (o ∈ hitL M ws nd ql)) .int walks_rng1 (by rw [rgI_len]; omega) ?_ ?_ (by simp)
    · intro x s1 hx ks1
      obtain ⟨v0, v1⟩ := mem_rgI.mp hx
      obtain ⟨n, rfl⟩ := Int.eq_ofNat_of_zero_le (by omega : 0 ≤ x)
      have hn1 : n ≤ M.n := by omega
      have hs1 := hs.ext ks1
      have hH1 := cel_keep ks1 hH' (by simp)
      by_cases c : (n : Int) ∈ hitL M ws nd ql
      · simp [hH1, c, Keep.refl]
      · have fN : ((List.range (M.n + 1)).map fun i => MV.loc (A (.n i)))[n]? = some (.loc (A (.n n))) := getF (by omega)
        have ev1 : evE ⟨callK (Wd r) k, (Wd r).repr, (Wd r).wf⟩ (.lcS (.nm 10) (.op2 .ix (.op2 .ix (.var 0) (.con (.int 3))) (.var 5)) [.op2 .inn (.var 10) (.var 4)] (.var 10)) [some (.loc m), some (.loc w), some (.loc d), some (.loc q), some (.loc st.length), some (.int n), none, none, none, none, none] s1 = .ok (.loc s1.length) (s1 ++ [.lst (((M.N n).filter fun o => decide (o ∈ hitL M ws nd ql)).map .int)]) :=
          ev_filt (xs := M.N n) (a := A (.n n)) _ (by simp [hs1.t, hs1.nl, fN]) (hs1.ni hn1) (by have := hlN n hn1; omega) (fun y acc hy => by
            have hH2 : cel (s1 ++ [.lst acc]) st.length = some (.lst ((hitL M ws nd ql).map .int)) := cel_app_old hH1
            simp [hH2]) (by simp)
        obtain ⟨db, hdb⟩ : ∃ db, db = (M.N n).any fun o => decide (o ∈ hitL M ws nd ql) := ⟨_, rfl⟩
        have g2 : (0 < ((M.N n).filter fun o => decide (o ∈ hitL M ws nd ql)).length) = (db = true) := by rw [filter_pos', hdb]
        have eq : (M.N (n : Int).toNat).any (fun o => decide (o ∈ hitL M ws nd ql)) = db := by rw [hdb]; rfl
        simp only [eq]
        simp only [lcTurn_nm, t_s1]
        cases db
        · simp [hH1, c, -r_lcS, ev1, g2, Keep.new]
        · simp [hH1, c, -r_lcS, ev1, g2, Keep.new]
    · intro s1 ks1 hs1
      exact hQ _ _ ⟨k1.trans ks1, k1.len, hs1⟩
end Mini
namespace Mini
def WOk (ws : List (Int × Int)) (cells : Nat) : Prop := ws ≠ [] ∧ ws.length ≤ 2 ∧ (∀ p, p ∈ ws → 0 ≤ p.1 ∧ p.1 < cells) ∧ (ws.map (·.1)).Nodup
theorem second_ne {f d c : Int} (h0 : 0 ≤ f) (h1 : f < c) (h2 : 0 ≤ d) (h3 : d < c - 1) : (f + 1 + d) % c ≠ f ∧ 0 ≤ (f + 1 + d) % c ∧ (f + 1 + d) % c < c := by
  refine ⟨?_, Int.emod_nonneg _ (by omega), Int.emod_lt_of_pos _ (by omega)⟩
  by_cases h : f + 1 + d < c
  · rw [Int.emod_eq_of_lt (by omega) h]
    omega
  · have e : f + 1 + d = (f + 1 + d - c) + c := by omega
    rw [e, Int.add_emod_right, Int.emod_eq_of_lt (by omega) (by omega)]
    omega
theorem writes_ok {r : MV → Txt} {K s b c : Nat} {st : Store} (hK : 2 ≤ K) (h : Src st s b) (hb : b ≤ 900000) (hc : 1 ≤ c) (hc2 : c ≤ 1000) : ∃ a st', callK (Wd r) K 14 [.loc s, .int c] st = .ok (.loc a) st' ∧ Src st' s (b + 5) ∧ Keep [s] st st' ∧ st.length ≤ a ∧ ∃ ws, cel st' a = some (.lst (prs ws)) ∧ WOk ws c := by
  obtain ⟨k, rfl⟩ : ∃ k, K = k + 1 := ⟨K - 1, by omega⟩
  refine OkQ.ex MV.loc fun Q hQ => ?_
  rw [callK_eq (g__law_writes r) rfl]
  obtain ⟨v1, s1, e1, a1, b1, r1, k1⟩ := draw_ok (r := r) (K := k) (m := (c : Int)) (by omega) h (by omega) (by omega) (by omega)
  obtain ⟨v2, s2, e2, a2, b2, r2, k2⟩ := draw_ok (r := r) (K := k) (m := 2001) (by omega) r1 (by omega) (by omega) (by omega)
  have r3 : Src (s2 ++ [.lst [.tup [.int v1, .int (v2 - 1000)]]]) s (b + 2) := r2.app
  have hne : s2.length ≠ s := by have := r2.lt; omega
  have hle : st.length ≤ s2.length := Nat.le_trans k1.len k2.len
  by_cases hc1 : (1 : Int) < c
  · obtain ⟨v3, s3, e3, a3, b3, r4, k3⟩ := draw_ok (r := r) (K := k) (m := 3) (by omega) r3 (by omega) (by omega) (by omega)
    have hL3 : cel s3 s2.length = some (.lst [.tup [.int v1, .int (v2 - 1000)]]) := cel_keep k3 (by simp) (by simpa using hne)
    have k03 : Keep [s] st s3 := k1.trans (k2.trans (Keep.new.weak.trans k3))
    by_cases h3 : v3 = 0
    · obtain ⟨v4, s4, e4, a4, b4, r5, k4⟩ := draw_ok (r := r) (K := k) (m := (c : Int) - 1) (by omega) r4 (by omega) (by omega) (by omega)
      obtain ⟨v5, s5, e5, a5, b5, r6, k5⟩ := draw_ok (r := r) (K := k) (m := 2001) (by omega) r5 (by omega) (by omega) (by omega)
      have hL4 := cel_keep k4 hL3 (by simpa using hne)
      have hL5 : cel s5 s2.length = some (.lst [.tup [.int v1, .int (v2 - 1000)]]) := cel_keep k5 (cel_keep k4 hL3 (by simpa using hne)) (by simpa using hne)
      have hmod : ∀ t, op2 .mod (.int (v1 + 1 + v4)) (.int (c : Int)) t = .ok (.int ((v1 + 1 + v4) % c)) t := fun t => o_mod (by omega)
      simp [d__law_writes, e1, e2, newL_ok, sizeMax, hc1, e3, h3, e4, hmod, e5, hL4, hL5, appV_ok]
      obtain ⟨n1, n2, n3⟩ := second_ne a1 b1 a4 b4
      refine hQ _ _ ⟨r6.set hne, ?_, hle, [(v1, v2 - 1000), ((v1 + 1 + v4) % c, v5 - 1000)], ?_, by simp, by simp, ?_, ?_⟩
      · exact (k03.trans (k4.trans k5)).setNew hle
      · rw [cel_set _ _ _ (cel_lt hL5)]
        rfl
      · intro p hp
        simp at hp
        rcases hp with rfl | rfl
        · exact ⟨a1, b1⟩
        · exact ⟨n2, n3⟩
      · simp
        omega
    · simp [d__law_writes, e1, e2, newL_ok, sizeMax, hc1, e3, h3]
      exact hQ _ _ ⟨r4.mono (by omega), k03, hle, [(v1, v2 - 1000)], by rw [hL3]; rfl, by simp, by simp, by simp; omega, by simp⟩
  · simp [d__law_writes, e1, e2, newL_ok, sizeMax, hc1]
    exact hQ _ _ ⟨r3.mono (by omega), k1.trans (k2.trans Keep.new.weak), hle, [(v1, v2 - 1000)], by simp [prs], by simp, by simp, by simp; omega, by simp⟩
end Mini
namespace Mini
/-! the law's rules, with no program in sight -/
def hitR (M : Md) (ws : List (Int × Int)) (nd q : List Int) (o : Nat) : Prop := (o : Int) ∈ q ∨ (∃ e, e ∈ nd ∧ (o : Int) ∈ M.B e.toNat) ∨ ((∃ c, c ∈ keysW (M.W o) ∧ c ∈ keysW ws) ∧ (o : Int) ∉ nd)
def barR (M : Md) (ws : List (Int × Int)) (nd q : List Int) (o : Nat) : Prop := hitR M ws nd q o ∨ ∃ p, p ∈ M.N o ∧ hitR M ws nd q p.toNat
theorem hitB_iff {M : Md} {ws : List (Int × Int)} {nd q : List Int} {o : Nat} : hitB M ws nd q (o : Int) = true ↔ hitR M ws nd q o := by
  unfold hitB hitR sharedB keysW
  simp only [Bool.or_eq_true, Bool.and_eq_true, Bool.not_eq_true', decide_eq_true_eq, decide_eq_false_iff_not, List.any_eq_true, Int.toNat_natCast]
  constructor
  · rintro (h | h | ⟨⟨p, hp, h⟩, g⟩)
    · exact .inl h
    · exact .inr (.inl h)
    · exact .inr (.inr ⟨⟨p.1, List.mem_map.mpr ⟨p, hp, rfl⟩, h⟩, g⟩)
  · rintro (h | h | ⟨⟨c, hc, h⟩, g⟩)
    · exact .inl h
    · exact .inr (.inl h)
    · obtain ⟨p, hp, rfl⟩ := List.mem_map.mp hc
      exact .inr (.inr ⟨⟨p, hp, h⟩, g⟩)
theorem mem_hitL {M : Md} {ws : List (Int × Int)} {nd q : List Int} {o : Nat} : (o : Int) ∈ hitL M ws nd q ↔ (1 ≤ o ∧ o ≤ M.n) ∧ hitR M ws nd q o := by
  unfold hitL
  rw [List.mem_filter, mem_rgI, hitB_iff]
  constructor
  · rintro ⟨a, b⟩
    exact ⟨by omega, b⟩
  · rintro ⟨a, b⟩
    exact ⟨by omega, b⟩
theorem mem_barL {M : Md} {ws : List (Int × Int)} {nd q : List Int} {o : Nat} (hN : ∀ x, x ∈ M.N o → 1 ≤ x ∧ x ≤ M.n) : (o : Int) ∈ barL M ws nd q ↔ (1 ≤ o ∧ o ≤ M.n) ∧ barR M ws nd q o := by
  unfold barL barR
  rw [List.mem_filter, mem_rgI, Bool.or_eq_true, decide_eq_true_eq, mem_hitL, List.any_eq_true]
  simp only [Int.toNat_natCast, decide_eq_true_eq]
  constructor
  · rintro ⟨a, ⟨b, c⟩ | ⟨p, hp, c⟩⟩
    · exact ⟨b, .inl c⟩
    · obtain ⟨p0, p1⟩ := hN p hp
      obtain ⟨n, rfl⟩ := Int.eq_ofNat_of_zero_le (by omega : 0 ≤ p)
      exact ⟨by omega, .inr ⟨_, hp, (mem_hitL.mp c).2⟩⟩
  · rintro ⟨a, b | ⟨p, hp, c⟩⟩
    · exact ⟨by omega, .inl ⟨a, b⟩⟩
    · obtain ⟨p0, p1⟩ := hN p hp
      obtain ⟨n, rfl⟩ := Int.eq_ofNat_of_zero_le (by omega : 0 ≤ p)
      exact ⟨by omega, .inr ⟨_, hp, mem_hitL.mpr ⟨by omega, c⟩⟩⟩
theorem barL_range {M : Md} {ws : List (Int × Int)} {nd q : List Int} {x : Int} (h : x ∈ barL M ws nd q) : 1 ≤ x ∧ x ≤ M.n := by
  have := mem_rgI.mp (List.mem_filter.mp h).1
  omega
theorem rgI_nodup (lo : Int) (n : Nat) : (rgI lo n).Nodup := by
  unfold rgI
  refine List.pairwise_map.mpr (List.Pairwise.imp (fun {a b} h => ?_) List.nodup_range)
  omega
theorem barL_nodup {M : Md} {ws : List (Int × Int)} {nd q : List Int} : (barL M ws nd q).Nodup := List.Pairwise.filter _ (rgI_nodup _ _)
theorem barL_len {M : Md} {ws : List (Int × Int)} {nd q : List Int} : (barL M ws nd q).length ≤ M.n := by
  have := List.length_filter_le (fun x => decide (x ∈ hitL M ws nd q) || (M.N x.toNat).any fun o => decide (o ∈ hitL M ws nd q)) (rgI 1 M.n)
  rw [rgI_len] at this
  exact this
theorem needL_len {M : Md} {d : List Int} : (needL M d).length ≤ M.n := by
  have := List.length_filter_le (fun x => decide (x ∈ d) || d.any fun o => decide (x ∈ M.N o.toNat)) (rgI 1 M.n)
  rw [rgI_len] at this
  exact this
/-- a model that the law's rules have made -/
structure MdOk (M : Md) (cells : Nat) : Prop where
  base : M.base.length = cells
  W0 : M.W 0 = []
  W : ∀ i, 1 ≤ i → i ≤ M.n → WOk (M.W i) cells
  S : ∀ i, i ≤ M.n → 0 ≤ M.S i
  D : ∀ i, i ≤ M.n → ∀ x, x ∈ M.D i → 1 ≤ x ∧ x < i
  C : ∀ i, i ≤ M.n → ∀ x, x ∈ M.C i → 1 ≤ x ∧ x < i
  lD : ∀ i, i ≤ M.n → (M.D i).length ≤ M.n
  lC : ∀ i, i ≤ M.n → (M.C i).length ≤ M.n
  lN : ∀ i, i ≤ M.n → (M.N i).length ≤ M.n
  lB : ∀ i, i ≤ M.n → (M.B i).length ≤ M.n
  N : ∀ i, i ≤ M.n → ∀ x, x ∈ M.N i ↔ (1 ≤ x ∧ x < i) ∧ (x ∈ M.D i ∨ ∃ o, o ∈ M.D i ∧ x ∈ M.N o.toNat)
  T : ∀ i, i ≤ M.n → ∀ y, y ∈ M.N i → ∀ x, x ∈ M.N y.toNat → x ∈ M.N i
  Bs : ∀ i j : Nat, 1 ≤ i → i ≤ M.n → 1 ≤ j → j ≤ M.n → ((j : Int) ∈ M.B i ↔ (i : Int) ∈ M.B j)
  Br : ∀ i, i ≤ M.n → ∀ x, x ∈ M.B i → 1 ≤ x ∧ x ≤ M.n ∧ x ≠ i
  Bd : ∀ i, 1 ≤ i → i ≤ M.n → ∀ o : Nat, 1 ≤ o → o < i → ((o : Int) ∈ M.B i ↔ barR M (M.W i) (M.N i) (M.C i) o)
  noc : ∀ i, i ≤ M.n → ∀ o, o ∈ M.N i → o ∉ M.B i
theorem MdOk.Nr {M : Md} {cells : Nat} (h : MdOk M cells) {i : Nat} (hi : i ≤ M.n) {x : Int} (hx : x ∈ M.N i) : 1 ≤ x ∧ x < i := ((h.N i hi x).mp hx).1
theorem MdOk.lW {M : Md} {cells : Nat} (h : MdOk M cells) {i : Nat} (hi : i ≤ M.n) : (M.W i).length ≤ 2 := by
  by_cases e : i = 0
  · subst e
    rw [h.W0]
    simp
  · exact (h.W i (by omega) hi).2.1
/-- the model with one patch more -/
def Md.grown (M : Md) (ws : List (Int × Int)) (sz : Int) (D C : List Int) : Md :=
  { M.put ws sz (needL M D) (barL M ws (needL M D) C) D C with B := fun i => if i = M.n + 1 then barL M ws (needL M D) C else if (i : Int) ∈ barL M ws (needL M D) C then M.B i ++ [(M.n : Int) + 1] else M.B i }
section
variable {M : Md} {cells : Nat} {ws : List (Int × Int)} {sz : Int} {D C : List Int}
theorem grown_W {i : Nat} (hi : i ≤ M.n) : (M.grown ws sz D C).W i = M.W i := if_neg (by omega)
theorem grown_N {i : Nat} (hi : i ≤ M.n) : (M.grown ws sz D C).N i = M.N i := if_neg (by omega)
theorem grown_D {i : Nat} (hi : i ≤ M.n) : (M.grown ws sz D C).D i = M.D i := if_neg (by omega)
theorem grown_C {i : Nat} (hi : i ≤ M.n) : (M.grown ws sz D C).C i = M.C i := if_neg (by omega)
theorem grown_S {i : Nat} (hi : i ≤ M.n) : (M.grown ws sz D C).S i = M.S i := if_neg (by omega)
theorem grown_W1 : (M.grown ws sz D C).W (M.n + 1) = ws := if_pos rfl
theorem grown_N1 : (M.grown ws sz D C).N (M.n + 1) = needL M D := if_pos rfl
theorem grown_D1 : (M.grown ws sz D C).D (M.n + 1) = D := if_pos rfl
theorem grown_C1 : (M.grown ws sz D C).C (M.n + 1) = C := if_pos rfl
theorem grown_S1 : (M.grown ws sz D C).S (M.n + 1) = sz := if_pos rfl
theorem grown_B1 : (M.grown ws sz D C).B (M.n + 1) = barL M ws (needL M D) C := if_pos rfl
theorem grown_n : (M.grown ws sz D C).n = M.n + 1 := rfl
theorem grown_B {i : Nat} (hi : i ≤ M.n) {x : Int} : x ∈ (M.grown ws sz D C).B i ↔ x ∈ M.B i ∨ (x = M.n + 1 ∧ (i : Int) ∈ barL M ws (needL M D) C) := by
  show x ∈ (if i = M.n + 1 then _ else if (i : Int) ∈ barL M ws (needL M D) C then M.B i ++ [(M.n : Int) + 1] else M.B i) ↔ _
  rw [if_neg (by omega)]
  by_cases h : (i : Int) ∈ barL M ws (needL M D) C
  · rw [if_pos h, List.mem_append, List.mem_singleton]
    simp [h]
  · rw [if_neg h]
    simp [h]
theorem grown_Bl {i : Nat} (hi : i ≤ M.n) : ((M.grown ws sz D C).B i).length ≤ (M.B i).length + 1 := by
  show (if i = M.n + 1 then _ else if (i : Int) ∈ barL M ws (needL M D) C then M.B i ++ [(M.n : Int) + 1] else M.B i).length ≤ _
  rw [if_neg (by omega)]
  by_cases h : (i : Int) ∈ barL M ws (needL M D) C
  · rw [if_pos h, List.length_append]
    simp
  · rw [if_neg h]
    omega
theorem grown_hit {v : List (Int × Int)} {nd q : List Int} {o : Nat} (ho : o ≤ M.n) (hnd : ∀ e, e ∈ nd → 0 ≤ e ∧ e ≤ M.n) : hitR (M.grown ws sz D C) v nd q o ↔ hitR M v nd q o := by
  unfold hitR
  rw [grown_W ho]
  have : (∃ e, e ∈ nd ∧ (o : Int) ∈ (M.grown ws sz D C).B e.toNat) ↔ ∃ e, e ∈ nd ∧ (o : Int) ∈ M.B e.toNat := by
    constructor
    · rintro ⟨e, he, h⟩
      have := hnd e he
      rcases (grown_B (by omega)).mp h with h | ⟨h, _⟩
      · exact ⟨e, he, h⟩
      · omega
    · rintro ⟨e, he, h⟩
      have := hnd e he
      exact ⟨e, he, (grown_B (by omega)).mpr (.inl h)⟩
  rw [this]
theorem grown_bar {v : List (Int × Int)} {nd q : List Int} {o : Nat} (h : MdOk M cells) (ho : o ≤ M.n) (hnd : ∀ e, e ∈ nd → 0 ≤ e ∧ e ≤ M.n) : barR (M.grown ws sz D C) v nd q o ↔ barR M v nd q o := by
  unfold barR
  rw [grown_hit ho hnd, grown_N ho]
  have : (∃ p, p ∈ M.N o ∧ hitR (M.grown ws sz D C) v nd q p.toNat) ↔ ∃ p, p ∈ M.N o ∧ hitR M v nd q p.toNat := by
    constructor
    · rintro ⟨p, hp, g⟩
      have := h.Nr ho hp
      exact ⟨p, hp, (grown_hit (by omega) hnd).mp g⟩
    · rintro ⟨p, hp, g⟩
      have := h.Nr ho hp
      exact ⟨p, hp, (grown_hit (by omega) hnd).mpr g⟩
  rw [this]
theorem MdOk.grown (h : MdOk M cells) (hw : WOk ws cells) (hs : 0 ≤ sz) (hD : ∀ x, x ∈ D → 1 ≤ x ∧ x ≤ M.n) (hC : ∀ x, x ∈ C → 1 ≤ x ∧ x ≤ M.n) (lD : D.length ≤ M.n) (lC : C.length ≤ M.n) (hno : ∀ o, o ∈ needL M D → o ∉ barL M ws (needL M D) C) : MdOk (M.grown ws sz D C) cells := by
  have lo : ∀ i, i ≤ M.n + 1 → i = M.n + 1 ∨ i ≤ M.n := fun i h => by omega
  have nd : ∀ e, e ∈ needL M D → 1 ≤ e ∧ e ≤ M.n := fun e he => (mem_needL.mp he).1
  refine ⟨h.base, ?_, fun i h1 hi => ?_, fun i hi => ?_, fun i hi x hx => ?_, fun i hi x hx => ?_, fun i hi => ?_, fun i hi => ?_, fun i hi => ?_, fun i hi => ?_, fun i hi x => ?_, fun i hi y hy x hx => ?_, fun i j i1 i2 j1 j2 => ?_, fun i hi x hx => ?_, fun i i1 i2 o o1 o2 => ?_, fun i hi o ho => ?_⟩
  · rw [grown_W (Nat.zero_le _)]; exact h.W0
  · rcases lo i hi with rfl | hi
    · rw [grown_W1]; exact hw
    · rw [grown_W hi]; exact h.W i h1 hi
  · rcases lo i hi with rfl | hi
    · rw [grown_S1]; exact hs
    · rw [grown_S hi]; exact h.S i hi
  · rcases lo i hi with rfl | hi
    · rw [grown_D1] at hx
      have := hD x hx
      omega
    · rw [grown_D hi] at hx; exact h.D i hi x hx
  · rcases lo i hi with rfl | hi
    · rw [grown_C1] at hx
      have := hC x hx
      omega
    · rw [grown_C hi] at hx; exact h.C i hi x hx
  · rcases lo i hi with rfl | hi
    · rw [grown_D1, grown_n]; omega
    · rw [grown_D hi, grown_n]; have := h.lD i hi; omega
  · rcases lo i hi with rfl | hi
    · rw [grown_C1, grown_n]; omega
    · rw [grown_C hi, grown_n]; have := h.lC i hi; omega
  · rcases lo i hi with rfl | hi
    · rw [grown_N1, grown_n]
      have := needL_len (M := M) (d := D)
      omega
    · rw [grown_N hi, grown_n]; have := h.lN i hi; omega
  · rcases lo i hi with rfl | hi
    · rw [grown_B1, grown_n]
      have := barL_len (M := M) (ws := ws) (nd := needL M D) (q := C)
      omega
    · have := grown_Bl (M := M) (ws := ws) (sz := sz) (D := D) (C := C) hi
      have := h.lB i hi
      rw [grown_n]
      omega
  · rcases lo i hi with rfl | hi
    · rw [grown_N1, grown_D1, mem_needL]
      have e : (∃ o, o ∈ D ∧ x ∈ (M.grown ws sz D C).N o.toNat) ↔ ∃ o, o ∈ D ∧ x ∈ M.N o.toNat := by
        constructor
        · rintro ⟨o, ho, g⟩
          have := hD o ho
          rw [grown_N (by omega)] at g
          exact ⟨o, ho, g⟩
        · rintro ⟨o, ho, g⟩
          have := hD o ho
          exact ⟨o, ho, by rw [grown_N (by omega)]; exact g⟩
      rw [e]
      constructor
      · rintro ⟨a, b⟩
        exact ⟨by omega, b⟩
      · rintro ⟨a, b⟩
        exact ⟨by omega, b⟩
    · rw [grown_N hi, grown_D hi, h.N i hi]
      have e : (∃ o, o ∈ M.D i ∧ x ∈ (M.grown ws sz D C).N o.toNat) ↔ ∃ o, o ∈ M.D i ∧ x ∈ M.N o.toNat := by
        constructor
        · rintro ⟨o, ho, g⟩
          have := h.D i hi o ho
          rw [grown_N (by omega)] at g
          exact ⟨o, ho, g⟩
        · rintro ⟨o, ho, g⟩
          have := h.D i hi o ho
          exact ⟨o, ho, by rw [grown_N (by omega)]; exact g⟩
      rw [e]
  · rcases lo i hi with rfl | hi
    · rw [grown_N1] at hy ⊢
      obtain ⟨a, b⟩ := mem_needL.mp hy
      rw [grown_N (by omega)] at hx
      have r := h.Nr (by omega) hx
      refine mem_needL.mpr ⟨by omega, .inr ?_⟩
      rcases b with b | ⟨o, ho, b⟩
      · exact ⟨y, b, hx⟩
      · have := hD o ho
        exact ⟨o, ho, h.T _ (by omega) y b x hx⟩
    · rw [grown_N hi] at hy ⊢
      have r := h.Nr hi hy
      rw [grown_N (by omega)] at hx
      exact h.T i hi y hy x hx
  · rcases lo i i2 with rfl | hi <;> rcases lo j j2 with rfl | hj
    · exact Iff.rfl
    · rw [grown_B1, grown_B hj]
      constructor
      · intro g
        exact .inr ⟨by omega, g⟩
      · rintro (g | ⟨_, g⟩)
        · have := (h.Br j hj _ g).2.1
          omega
        · exact g
    · rw [grown_B1, grown_B hi]
      constructor
      · rintro (g | ⟨_, g⟩)
        · have := (h.Br i hi _ g).2.1
          omega
        · exact g
      · intro g
        exact .inr ⟨by omega, g⟩
    · rw [grown_B hi, grown_B hj, h.Bs i j i1 hi j1 hj]
      have a : ¬(j : Int) = M.n + 1 := by omega
      have b : ¬(i : Int) = M.n + 1 := by omega
      simp only [a, b, false_and, or_false]
  · rw [grown_n]
    rcases lo i hi with rfl | hi
    · rw [grown_B1] at hx
      have := barL_range hx
      omega
    · rcases (grown_B hi).mp hx with hx | ⟨rfl, _⟩
      · have := h.Br i hi x hx
        omega
      · omega
  · rcases lo i i2 with rfl | hi
    · rw [grown_B1, mem_barL (fun x hx => by have := h.Nr (by omega) hx; omega), grown_W1, grown_N1, grown_C1, grown_bar h (by omega) (fun e he => by have := nd e he; omega)]
      constructor
      · exact And.right
      · intro g
        exact ⟨by omega, g⟩
    · rw [grown_B hi, grown_W hi, grown_N hi, grown_C hi, grown_bar h (by omega) (fun e he => by have := h.Nr hi he; omega), ← h.Bd i i1 hi o o1 o2]
      have b : ¬(o : Int) = M.n + 1 := by omega
      simp only [b, false_and, or_false]
  · rcases lo i hi with rfl | hi
    · rw [grown_N1] at ho
      rw [grown_B1]
      exact hno o ho
    · rw [grown_N hi] at ho
      have := h.Nr hi ho
      intro g
      rcases (grown_B hi).mp g with g | ⟨g, _⟩
      · exact h.noc i hi o ho g
      · omega
end
/-! ### the book that is made of a model's first k patches -/
structure BkRel (S : BkS) (M : Md) (k : Nat) : Prop where
  n : S.n = k
  cells : S.cells = M.base.length
  Nd : ∀ i, 1 ≤ i → i ≤ k → ∀ j : Nat, S.Nd i j ↔ (j : Int) ∈ M.N i
  Br : ∀ i, 1 ≤ i → i ≤ k → ∀ j : Nat, S.Br i j ↔ (j : Int) ∈ M.B i ∧ j ≤ k
  Wr : ∀ c, c < M.base.length → ∀ j, S.Wr c j ↔ (1 ≤ j ∧ j ≤ k) ∧ (c : Int) ∈ keysW (M.W j)
theorem BkRel.zero (M : Md) : BkRel (S0 M.base) M 0 := ⟨rfl, rfl, fun i a b => by omega, fun i a b => by omega, fun c _ j => by
  show False ↔ _
  constructor
  · exact False.elim
  · rintro ⟨a, _⟩
    omega⟩
theorem BkRel.grown {S : BkS} {M : Md} {ws : List (Int × Int)} {sz : Int} {D C : List Int} (h : BkRel S M M.n) : BkRel S (M.grown ws sz D C) M.n :=
  ⟨h.n, h.cells, fun i a b j => by rw [grown_N b]; exact h.Nd i a b j, fun i a b j => by
    rw [h.Br i a b j, grown_B b]
    constructor
    · rintro ⟨x, y⟩
      exact ⟨.inl x, y⟩
    · rintro ⟨x | ⟨x, _⟩, y⟩
      · exact ⟨x, y⟩
      · omega, fun c hc j => by
    rw [h.Wr c hc j]
    constructor
    · rintro ⟨x, y⟩
      exact ⟨x, by rw [grown_W x.2]; exact y⟩
    · rintro ⟨x, y⟩
      rw [grown_W x.2] at y
      exact ⟨x, y⟩⟩
section
variable {S : BkS} {M : Md} {cells k : Nat}
theorem rel_nd (h : MdOk M cells) (b : BkRel S M k) (hk : k < M.n) (j : Nat) : PNd S (M.D (k + 1)) j ↔ (j : Int) ∈ M.N (k + 1) := by
  unfold PNd
  rw [h.N (k + 1) hk]
  constructor
  · rintro (g | ⟨o, ho, g⟩)
    · have := h.D (k + 1) hk j g
      exact ⟨this, .inl g⟩
    · have r := h.D (k + 1) hk o ho
      rw [b.Nd o.toNat (by omega) (by omega)] at g
      have r2 := h.Nr (by omega) g
      exact ⟨by omega, .inr ⟨o, ho, g⟩⟩
  · rintro ⟨_, g | ⟨o, ho, g⟩⟩
    · exact .inl g
    · have r := h.D (k + 1) hk o ho
      exact .inr ⟨o, ho, (b.Nd o.toNat (by omega) (by omega) j).mpr g⟩
theorem rel_hit (h : MdOk M cells) (b : BkRel S M k) (hk : k < M.n) (j : Nat) : Hit S (sortI ((M.W (k + 1)).map (·.1))) (PNd S (M.D (k + 1))) (fun j => (j : Int) ∈ M.C (k + 1)) j ↔ (1 ≤ j ∧ j ≤ k) ∧ hitR M (M.W (k + 1)) (M.N (k + 1)) (M.C (k + 1)) j := by
  unfold Hit hitR
  have hW := h.W (k + 1) (by omega) hk
  have hcell : ∀ c : Int, c ∈ (M.W (k + 1)).map (·.1) → 0 ≤ c ∧ c < M.base.length := fun c hc => by
    obtain ⟨p, hp, rfl⟩ := List.mem_map.mp hc
    rw [h.base]
    exact hW.2.2.1 p hp
  rw [rel_nd h b hk j]
  constructor
  · rintro (g | ⟨c, hc, g1, g2⟩ | ⟨o, o1, o2, g1, g2⟩)
    · have := h.C (k + 1) hk j g
      exact ⟨by omega, .inl g⟩
    · have hc2 := mem_sortI.mp hc
      obtain ⟨c0, c1⟩ := hcell c hc2
      rw [b.Wr c.toNat (by omega)] at g1
      refine ⟨g1.1, .inr (.inr ⟨⟨c, ?_, hc2⟩, g2⟩)⟩
      have := g1.2
      rwa [Int.toNat_of_nonneg c0] at this
    · rw [b.n] at o2
      rw [rel_nd h b hk o] at g1
      rw [b.Br o o1 o2] at g2
      have r := h.Br o (by omega) _ g2.1
      exact ⟨by omega, .inr (.inl ⟨o, g1, by simpa using g2.1⟩)⟩
  · rintro ⟨⟨j1, j2⟩, g | ⟨e, he, g⟩ | ⟨⟨c, c1, c2⟩, g⟩⟩
    · exact .inl g
    · have r := h.Nr (i := k + 1) hk he
      refine .inr (.inr ⟨e.toNat, by omega, by rw [b.n]; omega, ?_, ?_⟩)
      · rw [rel_nd h b hk, Int.toNat_of_nonneg (by omega)]
        exact he
      · rw [b.Br _ (by omega) (by omega)]
        exact ⟨g, j2⟩
    · obtain ⟨q0, q1⟩ := hcell c c2
      refine .inr (.inl ⟨c, mem_sortI.mpr c2, ?_, g⟩)
      rw [b.Wr c.toNat (by omega), Int.toNat_of_nonneg q0]
      exact ⟨⟨j1, j2⟩, c1⟩
theorem rel_br (h : MdOk M cells) (b : BkRel S M k) (hk : k < M.n) (j : Nat) : PBr S (M.W (k + 1)) (M.D (k + 1)) (M.C (k + 1)) j ↔ (j : Int) ∈ M.B (k + 1) ∧ j ≤ k := by
  unfold PBr NBar
  rw [rel_hit h b hk j, b.n]
  have e : ∀ j, 1 ≤ j → j ≤ k → ((∃ p, S.Nd j p ∧ Hit S (sortI ((M.W (k + 1)).map (·.1))) (PNd S (M.D (k + 1))) (fun j => (j : Int) ∈ M.C (k + 1)) p) ↔ ∃ p, p ∈ M.N j ∧ hitR M (M.W (k + 1)) (M.N (k + 1)) (M.C (k + 1)) p.toNat) := fun j j1 j2 => by
    constructor
    · rintro ⟨p, g1, g2⟩
      rw [b.Nd j j1 j2] at g1
      rw [rel_hit h b hk p] at g2
      exact ⟨p, g1, by simpa using g2.2⟩
    · rintro ⟨p, g1, g2⟩
      have r := h.Nr (by omega) g1
      refine ⟨p.toNat, ?_, ?_⟩
      · rw [b.Nd j j1 j2, Int.toNat_of_nonneg (by omega)]
        exact g1
      · rw [rel_hit h b hk]
        exact ⟨by omega, g2⟩
  constructor
  · rintro (⟨⟨j1, j2⟩, g⟩ | ⟨j1, j2, g⟩)
    · exact ⟨(h.Bd (k + 1) (by omega) hk j j1 (by omega)).mpr (.inl g), j2⟩
    · exact ⟨(h.Bd (k + 1) (by omega) hk j j1 (by omega)).mpr (.inr ((e j j1 j2).mp g)), j2⟩
  · rintro ⟨g, j2⟩
    have r := h.Br (k + 1) hk _ g
    have j1 : 1 ≤ j := by omega
    rcases (h.Bd (k + 1) (by omega) hk j j1 (by omega)).mp g with g | g
    · exact .inl ⟨⟨j1, j2⟩, g⟩
    · exact .inr ⟨j1, j2, (e j j1 j2).mpr g⟩
theorem rel_no (h : MdOk M cells) (b : BkRel S M k) (hk : k < M.n) (j : Nat) (g : PBr S (M.W (k + 1)) (M.D (k + 1)) (M.C (k + 1)) j) : ¬PNd S (M.D (k + 1)) j := by
  rw [rel_br h b hk] at g
  rw [rel_nd h b hk]
  intro z
  exact h.noc (k + 1) hk j z g.1
theorem BkRel.add (h : MdOk M cells) (b : BkRel S M k) (hk : k < M.n) {sz : Int} : BkRel (S.add sz (M.W (k + 1)) (PNd S (M.D (k + 1))) (PBr S (M.W (k + 1)) (M.D (k + 1)) (M.C (k + 1)))) M (k + 1) := by
  have e := b.n
  refine ⟨by show S.n + 1 = _; rw [e], b.cells, fun i i1 i2 j => ?_, fun i i1 i2 j => ?_, fun c hc j => ?_⟩
  · show (if i = S.n + 1 then _ else S.Nd i) j ↔ _
    by_cases q : i = k + 1
    · subst q
      rw [if_pos (by rw [e])]
      exact rel_nd h b hk j
    · rw [if_neg (by rw [e]; exact q)]
      exact b.Nd i i1 (by omega) j
  · show ((if i = S.n + 1 then _ else S.Br i) j ∨ (1 ≤ i ∧ i ≤ S.n + 1 ∧ PBr S _ _ _ i ∧ j = S.n + 1)) ↔ _
    rw [rel_br h b hk i, e]
    by_cases q : i = k + 1
    · subst q
      rw [if_pos rfl, rel_br h b hk j]
      constructor
      · rintro (⟨g1, g2⟩ | ⟨_, _, ⟨_, g⟩, _⟩)
        · exact ⟨g1, by omega⟩
        · omega
      · rintro ⟨g1, g2⟩
        have r := h.Br (k + 1) hk _ g1
        exact .inl ⟨g1, by omega⟩
    · rw [if_neg q, b.Br i i1 (by omega)]
      constructor
      · rintro (⟨g1, g2⟩ | ⟨_, _, ⟨g1, g2⟩, rfl⟩)
        · exact ⟨g1, by omega⟩
        · exact ⟨(h.Bs i (k + 1) i1 (by omega) (by omega) hk).mpr g1, by omega⟩
      · rintro ⟨g1, g2⟩
        by_cases q2 : j = k + 1
        · subst q2
          exact .inr ⟨i1, i2, ⟨(h.Bs i (k + 1) i1 (by omega) (by omega) hk).mp g1, by omega⟩, rfl⟩
        · exact .inl ⟨g1, by omega⟩
  · show (S.Wr c j ∨ ((c : Int) ∈ (M.W (k + 1)).map (·.1) ∧ j = S.n + 1)) ↔ _
    rw [b.Wr c hc j, e]
    constructor
    · rintro (⟨g1, g2⟩ | ⟨g1, rfl⟩)
      · exact ⟨by omega, g2⟩
      · exact ⟨by omega, g1⟩
    · rintro ⟨g1, g2⟩
      by_cases q2 : j = k + 1
      · subst q2
        exact .inr ⟨g2, rfl⟩
      · exact .inl ⟨by omega, g2⟩
theorem chain_pair {l : List Int} (h : ∀ j x y, l[j]? = some x → l[j + 1]? = some y → x < y) : l.Pairwise (· < ·) := by
  rw [List.pairwise_iff_getElem]
  intro i j hi hj hij
  obtain ⟨d, rfl⟩ : ∃ d, j = i + 1 + d := ⟨j - i - 1, by omega⟩
  clear hij
  induction d with
  | zero => exact h i _ _ (List.getElem?_eq_getElem hi) (List.getElem?_eq_getElem hj)
  | succ d ih =>
    have h1 := ih (by omega)
    have h2 := h (i + 1 + d) _ _ (List.getElem?_eq_getElem (by omega)) (List.getElem?_eq_getElem (by omega : i + 1 + d + 1 < l.length))
    have e : l[i + 1 + (d + 1)] = l[i + 1 + d + 1] := by congr 1
    omega
theorem hold_ver (h : MdOk M cells) (b : BkRel S M M.n) (t : List Int) : Hold S t ↔ VerM M t := by
  have e := b.n
  rw [hold_iff (fun i j i1 i2 g => by
      rw [e] at i2
      rw [b.Nd i i1 i2] at g
      have := h.Nr i2 g
      omega) (fun i j i1 i2 j1 j2 => by
      rw [e] at i2 j2
      rw [b.Br i i1 i2, b.Br j j1 j2, h.Bs i j i1 i2 j1 j2]
      simp only [i2, j2, and_true]) (fun i i1 i2 g => by
      rw [e] at i2
      rw [b.Br i i1 i2] at g
      exact (h.Br i i2 _ g.1).2.2 rfl)]
  constructor
  · rintro ⟨g1, g2, g3, g4⟩ j hj
    have hx : t[j]? = some t[j] := List.getElem?_eq_getElem hj
    have hm := List.getElem_mem hj
    obtain ⟨a, c⟩ := g2 _ hm
    rw [e] at c
    refine ⟨t[j], hx, a, c, fun y hy0 hy => ?_, fun o ho => ?_, fun o ho ht => ?_⟩
    · obtain ⟨q, hq⟩ := List.getElem?_eq_some_iff.mp hy
      have := List.pairwise_iff_getElem.mp g1 (j - 1) j q hj (by omega)
      omega
    · have r := h.Nr (by omega) ho
      have := g3 _ hm o.toNat (by
        rw [b.Nd _ (by omega) (by omega), Int.toNat_of_nonneg (by omega)]
        exact ho)
      rwa [Int.toNat_of_nonneg (by omega)] at this
    · have r := h.Br _ (by omega) _ ho
      refine g4 _ hm o ht ?_
      rw [b.Br _ (by omega) (by omega), Int.toNat_of_nonneg (by omega)]
      exact ⟨ho, by omega⟩
  · intro g
    refine ⟨chain_pair fun j x y hx hy => ?_, fun x hx => ?_, fun x hx j hj => ?_, fun x hx y hy gb => ?_⟩
    · have hl := (List.getElem?_eq_some_iff.mp hy).1
      obtain ⟨z, hz, _, _, g3, _⟩ := g (j + 1) hl
      rw [hy] at hz
      cases hz
      exact g3 x (by omega) (by simpa using hx)
    · obtain ⟨j, hj⟩ := List.mem_iff_getElem?.mp hx
      obtain ⟨z, hz, a, c, _⟩ := g j (List.getElem?_eq_some_iff.mp hj).1
      rw [hj] at hz
      cases hz
      rw [e]
      exact ⟨a, c⟩
    · obtain ⟨i, hi⟩ := List.mem_iff_getElem?.mp hx
      obtain ⟨z, hz, a, c, _, g4, _⟩ := g i (List.getElem?_eq_some_iff.mp hi).1
      rw [hi] at hz
      cases hz
      rw [b.Nd _ (by omega) (by omega)] at hj
      exact g4 _ hj
    · obtain ⟨i, hi⟩ := List.mem_iff_getElem?.mp hx
      obtain ⟨z, hz, a, c, _, _, g5⟩ := g i (List.getElem?_eq_some_iff.mp hi).1
      rw [hi] at hz
      cases hz
      rw [b.Br _ (by omega) (by omega)] at gb
      obtain ⟨i2, hi2⟩ := List.mem_iff_getElem?.mp hy
      obtain ⟨z2, hz2, a2, _⟩ := g i2 (List.getElem?_eq_some_iff.mp hi2).1
      rw [hi2] at hz2
      cases hz2
      refine g5 y ?_ hy
      have := gb.1
      rwa [Int.toNat_of_nonneg (by omega)] at this
end
end Mini
namespace Mini
/-- a comprehension over whole numbers that draws -/
theorem drawL {C : Cx} {i : Nat} {c : ME} {env : Env} {st : Store} {s b : Nat} {J : Iter} {l : List Int} (P : Int → Prop) (hi : i < env.length) (hs : Src st s b) (hJ : Walks J (l.map .int) [s] st) (hn : l.length ≤ 10000)
    (ht : ∀ x s' b', x ∈ l → Src s' s b' → b' ≤ b + l.length → Keep [s] st s' → ∃ v s'', tst C c (env.set i (some (.int x))) s' = .ok v s'' ∧ Src s'' s (b' + 1) ∧ Keep [s] s' s'' ∧ (v = true → P x)) :
    ∃ (a : Nat) (st' : Store) (L : List Int), lcRun J (lcTurn C (.nm i) [c] (.var i) env) st = .ok (.loc a) st' ∧ Src st' s (b + l.length) ∧ Keep [s] st st' ∧ st.length ≤ a ∧ cel st' a = some (.lst (L.map MV.int)) ∧ (∀ x, x ∈ L → x ∈ l ∧ P x) ∧ L.length ≤ l.length := by
  have hsl := hs.lt
  obtain ⟨acc, s1, h1, h2, h3⟩ := lcRun_go (J := J) (turn := lcTurn C (.nm i) [c] (.var i) env) (l := l.map .int) (st := st) hJ.1 (fun j acc s' => Keep [s] st s' ∧ Src s' s (b + j) ∧ ∃ L : List Int, acc = L.map .int ∧ (∀ x, x ∈ L → x ∈ l ∧ P x) ∧ L.length ≤ j) (fun j acc s h hj => (hJ.2 s h.1).1 j hj) (fun acc s h => (hJ.2 s h.1).2) (fun j x acc s' hx hD h => by
    obtain ⟨k1, r1, L, rfl, hL, hl⟩ := h
    obtain ⟨v, hv, rfl⟩ := getMap hx
    have hj : j < l.length := (List.getElem?_eq_some_iff.mp hv).1
    obtain ⟨t, s2, e, r2, k2, hp⟩ := ht v s' (b + j) (List.mem_of_getElem? hv) r1 (by omega) k1
    have hne : st.length ≠ s := by omega
    have hD2 : cel s2 st.length = some (.lst (L.map .int)) := cel_keep k2 hD (by simpa using hne)
    have e4 : (env.set i (some (MV.int v)))[i]? = some (some (.int v)) := List.getElem?_set_self hi
    cases t with
    | false =>
      refine ⟨none, s2, by simp [e], hD2, by rw [List.length_map]; unfold sizeMax; omega, k1.trans k2, r2, L, rfl, hL, by omega⟩
    | true =>
      refine ⟨some (.int v), s2, by simp [e, e4], hD2, by rw [List.length_map]; unfold sizeMax; omega, (k1.trans k2).setNew (Nat.le_refl _), r2.set hne, L ++ [v], by simp, ?_, by simp; omega⟩
      intro x hx
      rcases List.mem_append.mp hx with hx | hx
      · exact hL x hx
      · rw [List.mem_singleton.mp hx]
        exact ⟨List.mem_of_getElem? hv, hp rfl⟩) ⟨Keep.new.weak, hs.app.mono (by omega), [], rfl, by simp, by simp⟩
  obtain ⟨k1, r1, L, rfl, hL, hl⟩ := h3
  rw [List.length_map] at r1 hl
  exact ⟨st.length, s1, L, h1, r1, k1, Nat.le_refl _, h2, hL, hl⟩
theorem foot_b {A : Rl → Nat} {n p : Nat} (h : p ≤ n) : A (.b p) ∈ foot A n := List.mem_append_right _ (List.mem_map.mpr ⟨p, List.mem_range.mpr (by omega), rfl⟩)
/-- what a step of growing leaves -/
structure Grown (L : Nat) (st st' : Store) (m s b' : Nat) (A : Rl → Nat) (M : Md) (cells : Nat) (A' : Rl → Nat) (M' : Md) : Prop where
  at_ : ModelAt st' m A' M'
  ok : MdOk M' cells
  ext : ∃ ws sz D C, M' = M.grown ws sz D C
  src : Src st' s b'
  keep : Keep (s :: foot A M.n) st st'
  new : ∀ r, Live (M.n + 1) r → (Live M.n r ∧ A' r = A r) ∨ L ≤ A' r
theorem Grown.ne {L : Nat} {st st' : Store} {m s b' : Nat} {A : Rl → Nat} {M : Md} {cells : Nat} {A' : Rl → Nat} {M' : Md} (h : Grown L st st' m s b' A M cells A' M') {x : Nat} (hx : x < L) (hA : ∀ r, Live M.n r → A r ≠ x) : ∀ r, Live (M.n + 1) r → A' r ≠ x := fun r hr => by
  rcases h.new r hr with ⟨h1, h2⟩ | h2
  · rw [h2]
    exact hA r h1
  · omega
theorem keep_foot {st st' : Store} {A : Rl → Nat} {M : Md} {m s : Nat} (k : Keep (s :: foot A M.n) st st') {x : Nat} {c : Cell} (h : cel st x = some c) (hs : x ≠ s) (hx : ∀ r, Live M.n r → A r ≠ x) : cel st' x = some c := cel_keep k h (fun z => by
  rcases List.mem_cons.mp z with z | z
  · exact hs z
  · obtain ⟨r, hr, e⟩ := foot_live z
    exact hx r hr e.symm)
theorem tail_grow {r : MV → Txt} {k s b m cells w d q nd ba : Nat} {A : Rl → Nat} {M : Md} {ws : List (Int × Int)} {D C : List Int} {st : Store} (hk : 1 ≤ k) (h : ModelAt st m A M) (ok : MdOk M cells) (hn : M.n ≤ 1000) (hs : Src st s b) (hb : b ≤ 900000) (hsA : ∀ r, Live M.n r → A r ≠ s)
    (hw : cel st w = some (.lst (prs ws))) (hN : cel st nd = some (.lst ((needL M D).map .int))) (hB : cel st ba = some (.lst ((barL M ws (needL M D) C).map .int))) (hD : cel st d = some (.lst (D.map .int))) (hC : cel st q = some (.lst (C.map .int)))
    (hx : ∀ x, x ∈ [w, nd, ba, d, q] → (∀ r, Live M.n r → A r ≠ x) ∧ x ≠ s) (hnd : [w, nd, ba, d, q].Nodup) (hwok : WOk ws cells) (hDr : ∀ x, x ∈ D → 1 ≤ x ∧ x ≤ M.n) (hCr : ∀ x, x ∈ C → 1 ≤ x ∧ x ≤ M.n) (lD : D.length ≤ M.n) (lC : C.length ≤ M.n) (hno : ∀ o, o ∈ needL M D → o ∉ barL M ws (needL M D) C) :
    ∃ (p : Env × Int) (st' : Store), evSs ⟨callK (Wd r) k, (Wd r).repr, (Wd r).wf⟩ [
      .asg (.nm 10) (.call 11 [(.var 0), (.con (.int 4))]),
      .expr (.meth .append (.op2 .ix (.var 1) (.con (.int 1))) [(.var 4)]),
      .expr (.meth .append (.op2 .ix (.var 1) (.con (.int 2))) [(.ite (.op2 .gt (.var 10) (.con (.int 0))) (.var 10) (.prim .len [(.var 4)]))]),
      .expr (.meth .append (.op2 .ix (.var 1) (.con (.int 3))) [(.var 8)]),
      .expr (.meth .append (.op2 .ix (.var 1) (.con (.int 4))) [(.var 9)]),
      .expr (.meth .append (.op2 .ix (.var 1) (.con (.int 5))) [(.var 5)]),
      .expr (.meth .append (.op2 .ix (.var 1) (.con (.int 6))) [(.var 7)]),
      .loop (.nm 6) (.seq (.var 9))
        [
          .expr (.meth .append (.op2 .ix (.op2 .ix (.var 1) (.con (.int 4))) (.var 6)) [(.var 3)])] [6]] [some (.loc s), some (.loc m), some (.int cells), some (.int ((M.n : Int) + 1)), some (.loc w), some (.loc d), none, some (.loc q), some (.loc nd), some (.loc ba), none] st = .ok (.next p.1) st' ∧ 0 ≤ p.2 ∧ ModelAt st' m (newA A M.n w nd ba d q) (M.grown ws p.2 D C) ∧ Src st' s (b + 1) ∧ Keep (s :: foot A M.n) st st' := by
  refine OkQ.ex (fun p : Env × Int => Ctl.next p.1) fun Q hQ => ?_
  obtain rfl := h.top
  obtain ⟨v, s1, e1, v0, v1, r1, k1⟩ := draw_ok (r := r) (K := k) (m := 4) hk hs (by omega) (by omega) (by omega)
  have h1 := h.keep k1 (fun r hr => by simpa using hsA r hr)
  have kx : ∀ x c, x ∈ [w, nd, ba, d, q] → cel st x = some c → cel s1 x = some c := fun x c hm e => cel_keep k1 e (by simpa using (hx x hm).2)
  have hw1 := kx w _ (by simp) hw
  have hN1 := kx nd _ (by simp) hN
  have hB1 := kx ba _ (by simp) hB
  have hD1 := kx d _ (by simp) hD
  have hC1 := kx q _ (by simp) hC
  obtain ⟨sz, hsz⟩ : ∃ sz : Int, sz = if 0 < v then v else ws.length := ⟨_, rfl⟩
  have hsz0 : 0 ≤ sz := by
    rw [hsz]
    by_cases g : 0 < v
    · rw [if_pos g]; omega
    · rw [if_neg g]; omega
  have hif : ∀ s', cel s' w = some (.lst (prs ws)) → evE ⟨callK (Wd r) k, (Wd r).repr, (Wd r).wf⟩ (.ite (.op2 .gt (.var 10) (.con (.int 0))) (.var 10) (.prim .len [.var 4])) [some (.loc s), some (.loc (A .top)), some (.int cells), some (.int ((M.n : Int) + 1)), some (.loc w), some (.loc d), none, some (.loc q), some (.loc nd), some (.loc ba), some (.int v)] s' = .ok (.int sz) s' := fun s' hs' => by
    by_cases hs0 : 0 < v
    · simp [hs0, hsz]
    · simp [hs0, hsz, hs', prs]
  obtain ⟨bl, hbl⟩ : ∃ bl, bl = barL M ws (needL M D) C := ⟨_, rfl⟩
  have hbr : ∀ x, x ∈ bl → 1 ≤ x ∧ x ≤ M.n := fun x hx => by rw [hbl] at hx; exact barL_range hx
  have hbn : bl.Nodup := by rw [hbl]; exact barL_nodup
  rw [← hbl] at hB1
  have hE := h1.eqs
  have hL := h1.lts
  have hX : ∀ r, Live M.n r → (A r = w) = False := fun r hr => eq_false ((hx w (by simp)).1 r hr)
  have hXb : ∀ r, Live M.n r → (A r = ba) = False := fun r hr => eq_false ((hx ba (by simp)).1 r hr)
  have b1 : M.n + 1 < 16000000 := by omega
  have hnew := h1.put (sz := sz) hw1 hN1 hB1 hD1 hC1 (fun x hm => (hx x hm).1) hnd
  simp [e1, h1.t, h1.wl, h1.sl, appV_ok, b1, cel_set_if, hE, hL, hX, -r_ite]
  rw [hif _ (by simp [cel_set_if, hE, hL, hX, hw1])]
  simp [h1.t, h1.sl, h1.nl, h1.bl, h1.dl, h1.cl, appV_ok, b1, cel_set_if, hE, hL, hX, hXb, hB1]
  generalize hs2 : ((((((List.set s1 (A .wl) (.lst (((List.range (M.n + 1)).map fun i => .loc (A (.w i))) ++ [.loc w]))).set (A .sl) (.lst (((List.range (M.n + 1)).map fun i => .int (M.S i)) ++ [.int sz]))).set (A .nl) (.lst (((List.range (M.n + 1)).map fun i => .loc (A (.n i))) ++ [.loc nd]))).set
      (A .bl) (.lst (((List.range (M.n + 1)).map fun i => .loc (A (.b i))) ++ [.loc ba]))).set (A .dl) (.lst (((List.range (M.n + 1)).map fun i => .loc (A (.d i))) ++ [.loc d]))).set (A .cl) (.lst (((List.range (M.n + 1)).map fun i => .loc (A (.c i))) ++ [.loc q]))) = s2 at hnew ⊢
  have k2 : Keep (foot A M.n) s1 s2 := by
    rw [← hs2]
    exact (((((Keep.setIn (by simp [foot])).trans (Keep.setIn (by simp [foot]))).trans (Keep.setIn (by simp [foot]))).trans (Keep.setIn (by simp [foot]))).trans (Keep.setIn (by simp [foot]))).trans (Keep.setIn (by simp [foot]))
  have hfx : ∀ x, x ∈ [w, nd, ba, d, q] → x ∉ foot A M.n := fun x hm z => by
    obtain ⟨r, hr, e⟩ := foot_live z
    exact (hx x hm).1 r hr e.symm
  have hsf : s ∉ foot A M.n := fun z => by
    obtain ⟨r, hr, e⟩ := foot_live z
    exact hsA r hr e.symm
  have r2 : Src s2 s (b + 1) := r1.keep k2 hsf
  have hB2 := cel_keep k2 hB1 (hfx ba (by simp))
  clear hs2
  simp only [okQ_bind]
  have b0 : ∀ i, i ≤ M.n → (M.B i).length < 16000000 := fun i hi => by
    have := ok.lB i hi
    omega
  refine okQ_forW (l := bl.map .int) (w := foot A M.n) (fun i e s' => Keep (foot A M.n) s2 s' ∧ e = [some (.loc s), some (.loc (A .top)), some (.int cells), some (.int ((M.n : Int) + 1)), some (.loc w), some (.loc d), none, some (.loc q), some (.loc nd), some (.loc ba), some (.int v)] ∧ ModelAt s' (A .top) (newA A M.n w nd ba d q) { M.put ws sz (needL M D) bl D C with B := fun j => if j = M.n + 1 then bl else if (j : Int) ∈ bl.take i then M.B j ++ [(M.n : Int) + 1] else M.B j })
    (walks_lst hB2 (hfx ba (by simp))) (by simp) (fun i e s h => h.1) ⟨Keep.refl, rfl, by simpa [Md.put] using hnew⟩ ?_ ?_
  · rintro i x e s' hx' ⟨ks, rfl, hM⟩
    obtain ⟨y, hv, rfl⟩ := getMap hx'
    obtain ⟨y0, y1⟩ := hbr y (List.mem_of_getElem? hv)
    obtain ⟨p, rfl⟩ := Int.eq_ofNat_of_zero_le (by omega : 0 ≤ y)
    have hp : p ≤ M.n := by omega
    have hpn : ¬(p : Int) ∈ bl.take i := fun z => by
      obtain ⟨j, hj⟩ := List.mem_iff_getElem?.mp z
      obtain ⟨g1, g2⟩ := List.getElem?_eq_some_iff.mp hj
      obtain ⟨g3, g4⟩ := List.getElem?_eq_some_iff.mp hv
      rw [List.length_take] at g1
      rw [List.getElem_take] at g2
      have := List.pairwise_iff_getElem.mp hbn j i (by omega) g3 (by omega)
      omega
    have fB : ((List.range (M.n + 1 + 1)).map fun i => MV.loc (newA A M.n w nd ba d q (.b i)))[p]? = some (.loc (newA A M.n w nd ba d q (.b p))) := getF (by omega)
    have t1 : cel s' (A .top) = some (.lst [.loc (newA A M.n w nd ba d q .base), .loc (newA A M.n w nd ba d q .wl), .loc (newA A M.n w nd ba d q .sl), .loc (newA A M.n w nd ba d q .nl), .loc (newA A M.n w nd ba d q .bl), .loc (newA A M.n w nd ba d q .dl), .loc (newA A M.n w nd ba d q .cl)]) := hM.t
    have t2 : cel s' (newA A M.n w nd ba d q .bl) = some (.lst ((List.range (M.n + 1 + 1)).map fun i => .loc (newA A M.n w nd ba d q (.b i)))) := hM.bl
    have t3 : cel s' (newA A M.n w nd ba d q (.b p)) = some (.lst ((M.B p).map .int)) := by
      have := hM.bi (i := p) (by show p ≤ M.n + 1; omega)
      rw [this]
      simp [show p ≠ M.n + 1 by omega, hpn]
    have eA : newA A M.n w nd ba d q (.b p) = A (.b p) := if_neg (by omega)
    simp [t1, t2, fB, t3, appV_ok, b0 p hp]
    refine ⟨ks.trans (Keep.setIn (by rw [eA]; exact foot_b hp)), ?_⟩
    have hset := hM.setB (i := p) (by show p ≤ M.n + 1; omega) (l := M.B p ++ [(M.n : Int) + 1])
    have e1 : (M.B p ++ [(M.n : Int) + 1]).map MV.int = (M.B p).map .int ++ [.int ((M.n : Int) + 1)] := by simp
    rw [e1] at hset
    have e2 : (fun j => if j = p then M.B p ++ [(M.n : Int) + 1] else if j = M.n + 1 then bl else if (j : Int) ∈ bl.take i then M.B j ++ [(M.n : Int) + 1] else M.B j) = fun j => if j = M.n + 1 then bl else if (j : Int) ∈ bl.take (i + 1) then M.B j ++ [(M.n : Int) + 1] else M.B j := by
      funext j
      by_cases g : j = p
      · subst g
        rw [if_pos rfl, if_neg (by omega), if_pos (by rw [take_snoc hv]; simp)]
      · have g2 : (j : Int) ∈ bl.take (i + 1) ↔ (j : Int) ∈ bl.take i := by
          rw [take_snoc hv, List.mem_append, List.mem_singleton]
          constructor
          · rintro (z | z)
            · exact z
            · omega
          · exact .inl
        rw [if_neg g]
        simp only [g2]
    rw [show ({ M.put ws sz (needL M D) bl D C with B := fun j => if j = M.n + 1 then bl else if (j : Int) ∈ bl.take (i + 1) then M.B j ++ [(M.n : Int) + 1] else M.B j } : Md) = { M.put ws sz (needL M D) bl D C with B := fun j => if j = p then M.B p ++ [(M.n : Int) + 1] else if j = M.n + 1 then bl else if (j : Int) ∈ bl.take i then M.B j ++ [(M.n : Int) + 1] else M.B j } by rw [e2]]
    exact hset
  · rintro e s' ⟨ks, rfl, hM⟩
    rw [List.length_map, List.take_length] at hM
    simp
    refine hQ ([some (.loc s), some (.loc (A .top)), some (.int cells), some (.int ((M.n : Int) + 1)), some (.loc w), some (.loc d), none, some (.loc q), some (.loc nd), some (.loc ba), some (.int v)], sz) s' ⟨hsz0, ?_, r2.keep ks hsf, ?_⟩
    · rw [hbl] at hM
      exact hM
    · refine (k1.sub ?_).trans ((k2.trans ks).sub fun x hx => List.mem_cons_of_mem _ hx)
      intro x hx
      rw [List.mem_singleton.mp hx]
      exact List.mem_cons_self
theorem tail_put {r : MV → Txt} {k s b m cells w d q nd ba : Nat} {A : Rl → Nat} {M : Md} {ws : List (Int × Int)} {D C : List Int} {st : Store} (hk : 1 ≤ k) (h : ModelAt st m A M) (ok : MdOk M cells) (hn : M.n ≤ 1000) (hs : Src st s b) (hb : b ≤ 900000) (hsA : ∀ r, Live M.n r → A r ≠ s)
    (hw : cel st w = some (.lst (prs ws))) (hN : cel st nd = some (.lst ((needL M D).map .int))) (hB : cel st ba = some (.lst ((barL M ws (needL M D) C).map .int))) (hD : cel st d = some (.lst (D.map .int))) (hC : cel st q = some (.lst (C.map .int)))
    (hx : ∀ x, x ∈ [w, nd, ba, d, q] → (∀ r, Live M.n r → A r ≠ x) ∧ x ≠ s) (hnd : [w, nd, ba, d, q].Nodup) (hwok : WOk ws cells) (hDr : ∀ x, x ∈ D → 1 ≤ x ∧ x ≤ M.n) (hCr : ∀ x, x ∈ C → 1 ≤ x ∧ x ≤ M.n) (lD : D.length ≤ M.n) (lC : C.length ≤ M.n) (hno : ∀ o, o ∈ needL M D → o ∉ barL M ws (needL M D) C) :
    ∃ (p : Env × Int) (st' : Store), evSs ⟨callK (Wd r) k, (Wd r).repr, (Wd r).wf⟩ [
      .asg (.nm 10) (.call 11 [(.var 0), (.con (.int 4))]),
      .expr (.meth .append (.op2 .ix (.var 1) (.con (.int 1))) [(.var 5)]),
      .expr (.meth .append (.op2 .ix (.var 1) (.con (.int 2))) [(.ite (.op2 .gt (.var 10) (.con (.int 0))) (.var 10) (.prim .len [(.var 5)]))]),
      .expr (.meth .append (.op2 .ix (.var 1) (.con (.int 3))) [(.var 6)]),
      .expr (.meth .append (.op2 .ix (.var 1) (.con (.int 4))) [(.var 9)]),
      .expr (.meth .append (.op2 .ix (.var 1) (.con (.int 5))) [(.var 3)]),
      .expr (.meth .append (.op2 .ix (.var 1) (.con (.int 6))) [(.var 7)]),
      .loop (.nm 8) (.seq (.var 9))
        [
          .expr (.meth .append (.op2 .ix (.op2 .ix (.var 1) (.con (.int 4))) (.var 8)) [(.var 4)])] [8]] [some (.loc s), some (.loc m), some (.int cells), some (.loc d), some (.int ((M.n : Int) + 1)), some (.loc w), some (.loc nd), some (.loc q), none, some (.loc ba), none] st = .ok (.next p.1) st' ∧ 0 ≤ p.2 ∧ ModelAt st' m (newA A M.n w nd ba d q) (M.grown ws p.2 D C) ∧ Src st' s (b + 1) ∧ Keep (s :: foot A M.n) st st' := by
  refine OkQ.ex (fun p : Env × Int => Ctl.next p.1) fun Q hQ => ?_
  obtain rfl := h.top
  obtain ⟨v, s1, e1, v0, v1, r1, k1⟩ := draw_ok (r := r) (K := k) (m := 4) hk hs (by omega) (by omega) (by omega)
  have h1 := h.keep k1 (fun r hr => by simpa using hsA r hr)
  have kx : ∀ x c, x ∈ [w, nd, ba, d, q] → cel st x = some c → cel s1 x = some c := fun x c hm e => cel_keep k1 e (by simpa using (hx x hm).2)
  have hw1 := kx w _ (by simp) hw
  have hN1 := kx nd _ (by simp) hN
  have hB1 := kx ba _ (by simp) hB
  have hD1 := kx d _ (by simp) hD
  have hC1 := kx q _ (by simp) hC
  obtain ⟨sz, hsz⟩ : ∃ sz : Int, sz = if 0 < v then v else ws.length := ⟨_, rfl⟩
  have hsz0 : 0 ≤ sz := by
    rw [hsz]
    by_cases g : 0 < v
    · rw [if_pos g]; omega
    · rw [if_neg g]; omega
  have hif : ∀ s', cel s' w = some (.lst (prs ws)) → evE ⟨callK (Wd r) k, (Wd r).repr, (Wd r).wf⟩ (.ite (.op2 .gt (.var 10) (.con (.int 0))) (.var 10) (.prim .len [.var 5])) [some (.loc s), some (.loc (A .top)), some (.int cells), some (.loc d), some (.int ((M.n : Int) + 1)), some (.loc w), some (.loc nd), some (.loc q), none, some (.loc ba), some (.int v)] s' = .ok (.int sz) s' := fun s' hs' => by
    by_cases hs0 : 0 < v
    · simp [hs0, hsz]
    · simp [hs0, hsz, hs', prs]
  obtain ⟨bl, hbl⟩ : ∃ bl, bl = barL M ws (needL M D) C := ⟨_, rfl⟩
  have hbr : ∀ x, x ∈ bl → 1 ≤ x ∧ x ≤ M.n := fun x hx => by rw [hbl] at hx; exact barL_range hx
  have hbn : bl.Nodup := by rw [hbl]; exact barL_nodup
  rw [← hbl] at hB1
  have hE := h1.eqs
  have hL := h1.lts
  have hX : ∀ r, Live M.n r → (A r = w) = False := fun r hr => eq_false ((hx w (by simp)).1 r hr)
  have hXb : ∀ r, Live M.n r → (A r = ba) = False := fun r hr => eq_false ((hx ba (by simp)).1 r hr)
  have b1 : M.n + 1 < 16000000 := by omega
  have hnew := h1.put (sz := sz) hw1 hN1 hB1 hD1 hC1 (fun x hm => (hx x hm).1) hnd
  simp [e1, h1.t, h1.wl, h1.sl, appV_ok, b1, cel_set_if, hE, hL, hX, -r_ite]
  rw [hif _ (by simp [cel_set_if, hE, hL, hX, hw1])]
  simp [h1.t, h1.sl, h1.nl, h1.bl, h1.dl, h1.cl, appV_ok, b1, cel_set_if, hE, hL, hX, hXb, hB1]
  generalize hs2 : ((((((List.set s1 (A .wl) (.lst (((List.range (M.n + 1)).map fun i => .loc (A (.w i))) ++ [.loc w]))).set (A .sl) (.lst (((List.range (M.n + 1)).map fun i => .int (M.S i)) ++ [.int sz]))).set (A .nl) (.lst (((List.range (M.n + 1)).map fun i => .loc (A (.n i))) ++ [.loc nd]))).set
      (A .bl) (.lst (((List.range (M.n + 1)).map fun i => .loc (A (.b i))) ++ [.loc ba]))).set (A .dl) (.lst (((List.range (M.n + 1)).map fun i => .loc (A (.d i))) ++ [.loc d]))).set (A .cl) (.lst (((List.range (M.n + 1)).map fun i => .loc (A (.c i))) ++ [.loc q]))) = s2 at hnew ⊢
  have k2 : Keep (foot A M.n) s1 s2 := by
    rw [← hs2]
    exact (((((Keep.setIn (by simp [foot])).trans (Keep.setIn (by simp [foot]))).trans (Keep.setIn (by simp [foot]))).trans (Keep.setIn (by simp [foot]))).trans (Keep.setIn (by simp [foot]))).trans (Keep.setIn (by simp [foot]))
  have hfx : ∀ x, x ∈ [w, nd, ba, d, q] → x ∉ foot A M.n := fun x hm z => by
    obtain ⟨r, hr, e⟩ := foot_live z
    exact (hx x hm).1 r hr e.symm
  have hsf : s ∉ foot A M.n := fun z => by
    obtain ⟨r, hr, e⟩ := foot_live z
    exact hsA r hr e.symm
  have r2 : Src s2 s (b + 1) := r1.keep k2 hsf
  have hB2 := cel_keep k2 hB1 (hfx ba (by simp))
  clear hs2
  simp only [okQ_bind]
  have b0 : ∀ i, i ≤ M.n → (M.B i).length < 16000000 := fun i hi => by
    have := ok.lB i hi
    omega
  refine okQ_forW (l := bl.map .int) (w := foot A M.n) (fun i e s' => Keep (foot A M.n) s2 s' ∧ e = [some (.loc s), some (.loc (A .top)), some (.int cells), some (.loc d), some (.int ((M.n : Int) + 1)), some (.loc w), some (.loc nd), some (.loc q), none, some (.loc ba), some (.int v)] ∧ ModelAt s' (A .top) (newA A M.n w nd ba d q) { M.put ws sz (needL M D) bl D C with B := fun j => if j = M.n + 1 then bl else if (j : Int) ∈ bl.take i then M.B j ++ [(M.n : Int) + 1] else M.B j })
    (walks_lst hB2 (hfx ba (by simp))) (by simp) (fun i e s h => h.1) ⟨Keep.refl, rfl, by simpa [Md.put] using hnew⟩ ?_ ?_
  · rintro i x e s' hx' ⟨ks, rfl, hM⟩
    obtain ⟨y, hv, rfl⟩ := getMap hx'
    obtain ⟨y0, y1⟩ := hbr y (List.mem_of_getElem? hv)
    obtain ⟨p, rfl⟩ := Int.eq_ofNat_of_zero_le (by omega : 0 ≤ y)
    have hp : p ≤ M.n := by omega
    have hpn : ¬(p : Int) ∈ bl.take i := fun z => by
      obtain ⟨j, hj⟩ := List.mem_iff_getElem?.mp z
      obtain ⟨g1, g2⟩ := List.getElem?_eq_some_iff.mp hj
      obtain ⟨g3, g4⟩ := List.getElem?_eq_some_iff.mp hv
      rw [List.length_take] at g1
      rw [List.getElem_take] at g2
      have := List.pairwise_iff_getElem.mp hbn j i (by omega) g3 (by omega)
      omega
    have fB : ((List.range (M.n + 1 + 1)).map fun i => MV.loc (newA A M.n w nd ba d q (.b i)))[p]? = some (.loc (newA A M.n w nd ba d q (.b p))) := getF (by omega)
    have t1 : cel s' (A .top) = some (.lst [.loc (newA A M.n w nd ba d q .base), .loc (newA A M.n w nd ba d q .wl), .loc (newA A M.n w nd ba d q .sl), .loc (newA A M.n w nd ba d q .nl), .loc (newA A M.n w nd ba d q .bl), .loc (newA A M.n w nd ba d q .dl), .loc (newA A M.n w nd ba d q .cl)]) := hM.t
    have t2 : cel s' (newA A M.n w nd ba d q .bl) = some (.lst ((List.range (M.n + 1 + 1)).map fun i => .loc (newA A M.n w nd ba d q (.b i)))) := hM.bl
    have t3 : cel s' (newA A M.n w nd ba d q (.b p)) = some (.lst ((M.B p).map .int)) := by
      have := hM.bi (i := p) (by show p ≤ M.n + 1; omega)
      rw [this]
      simp [show p ≠ M.n + 1 by omega, hpn]
    have eA : newA A M.n w nd ba d q (.b p) = A (.b p) := if_neg (by omega)
    simp [t1, t2, fB, t3, appV_ok, b0 p hp]
    refine ⟨ks.trans (Keep.setIn (by rw [eA]; exact foot_b hp)), ?_⟩
    have hset := hM.setB (i := p) (by show p ≤ M.n + 1; omega) (l := M.B p ++ [(M.n : Int) + 1])
    have e1 : (M.B p ++ [(M.n : Int) + 1]).map MV.int = (M.B p).map .int ++ [.int ((M.n : Int) + 1)] := by simp
    rw [e1] at hset
    have e2 : (fun j => if j = p then M.B p ++ [(M.n : Int) + 1] else if j = M.n + 1 then bl else if (j : Int) ∈ bl.take i then M.B j ++ [(M.n : Int) + 1] else M.B j) = fun j => if j = M.n + 1 then bl else if (j : Int) ∈ bl.take (i + 1) then M.B j ++ [(M.n : Int) + 1] else M.B j := by
      funext j
      by_cases g : j = p
      · subst g
        rw [if_pos rfl, if_neg (by omega), if_pos (by rw [take_snoc hv]; simp)]
      · have g2 : (j : Int) ∈ bl.take (i + 1) ↔ (j : Int) ∈ bl.take i := by
          rw [take_snoc hv, List.mem_append, List.mem_singleton]
          constructor
          · rintro (z | z)
            · exact z
            · omega
          · exact .inl
        rw [if_neg g]
        simp only [g2]
    rw [show ({ M.put ws sz (needL M D) bl D C with B := fun j => if j = M.n + 1 then bl else if (j : Int) ∈ bl.take (i + 1) then M.B j ++ [(M.n : Int) + 1] else M.B j } : Md) = { M.put ws sz (needL M D) bl D C with B := fun j => if j = p then M.B p ++ [(M.n : Int) + 1] else if j = M.n + 1 then bl else if (j : Int) ∈ bl.take i then M.B j ++ [(M.n : Int) + 1] else M.B j } by rw [e2]]
    exact hset
  · rintro e s' ⟨ks, rfl, hM⟩
    rw [List.length_map, List.take_length] at hM
    simp
    refine hQ ([some (.loc s), some (.loc (A .top)), some (.int cells), some (.loc d), some (.int ((M.n : Int) + 1)), some (.loc w), some (.loc nd), some (.loc q), none, some (.loc ba), some (.int v)], sz) s' ⟨hsz0, ?_, r2.keep ks hsf, ?_⟩
    · rw [hbl] at hM
      exact hM
    · refine (k1.sub ?_).trans ((k2.trans ks).sub fun x hx => List.mem_cons_of_mem _ hx)
      intro x hx
      rw [List.mem_singleton.mp hx]
      exact List.mem_cons_self
theorem kSs_app (C : Cx) (l l2 : List MS) (c : Ctl) (s : Store) (h : ∀ env st, evSs C (l ++ l2) env st = (evSs C l env st).bind (kSs C l2)) : kSs C (l ++ l2) c s = (kSs C l c s).bind (kSs C l2) := by
  rcases c with e | v | e | e
  · exact h e s
  · rfl
  · rfl
  · rfl
theorem evSs_app (C : Cx) (l2 : List MS) : ∀ (l : List MS) (env : Env) (st : Store), evSs C (l ++ l2) env st = (evSs C l env st).bind (kSs C l2)
  | [], env, st => by simp only [List.nil_append, s_s0, Out.bind_ok, q_ssN]
  | a :: l, env, st => by
    rw [List.cons_append, s_ss, s_ss]
    rcases evS C a env st with ⟨c, s⟩ | ⟨x, s⟩ | _
    · rw [Out.bind_ok, Out.bind_ok, kSs_app C l l2 c s (evSs_app C l2 l)]
    · rfl
    · rfl
theorem evSs_split (C : Cx) (n : Nat) (l : List MS) (env : Env) (st : Store) : evSs C l env st = (evSs C (l.take n) env st).bind (kSs C (l.drop n)) := by
  rw [← evSs_app, List.take_append_drop]
theorem needL_nil (M : Md) : needL M [] = [] := by
  unfold needL
  simp
theorem Grown.mk' {st st1 st' : Store} {m s b' : Nat} {A : Rl → Nat} {M : Md} {L cells w nd ba d q : Nat} {ws : List (Int × Int)} {sz : Int} {D C : List Int} (h : ModelAt st' m (newA A M.n w nd ba d q) (M.grown ws sz D C)) (ok : MdOk (M.grown ws sz D C) cells) (hs : Src st' s b') (k1 : Keep [s] st st1) (k2 : Keep (s :: foot A M.n) st1 st') (hx : ∀ x, x ∈ [w, nd, ba, d, q] → L ≤ x) : Grown L st st' m s b' A M cells (newA A M.n w nd ba d q) (M.grown ws sz D C) := by
  refine ⟨h, ok, ⟨ws, sz, D, C, rfl⟩, hs, (k1.sub fun x hx => by rw [List.mem_singleton.mp hx]; exact List.mem_cons_self).trans k2, fun r hr => ?_⟩
  rcases newA_cases (A := A) (w := w) (nd := nd) (ba := ba) (d := d) (c := q) hr with h | ⟨_, e⟩ | ⟨_, e⟩ | ⟨_, e⟩ | ⟨_, e⟩ | ⟨_, e⟩
  · exact .inl h
  all_goals
    right
    rw [e]
    exact hx _ (by simp)
theorem grow_ok {r : MV → Txt} {K s b m cells : Nat} {A : Rl → Nat} {M : Md} {st : Store} (hK : 3 ≤ K) (h : ModelAt st m A M) (ok : MdOk M cells) (hn : M.n ≤ 1000) (hc : 1 ≤ cells) (hc2 : cells ≤ 1000) (hs : Src st s b) (hb : b ≤ 800000) (hsA : ∀ r, Live M.n r → A r ≠ s) :
    ∃ (p : (Rl → Nat) × Md) (st' : Store), callK (Wd r) K 15 [.loc s, .loc m, .int cells] st = .ok .non st' ∧ Grown st.length st st' m s (b + 2 * M.n + 6) A M cells p.1 p.2 := by
  obtain ⟨k, rfl⟩ : ∃ k, K = k + 1 := ⟨K - 1, by omega⟩
  obtain ⟨w, s1, e1, r1, k1, hw0, ws, hw, wok⟩ := writes_ok (r := r) (K := k) (c := cells) (by omega) hs (by omega) hc hc2
  have hr2 : ∀ s, mkR2 (.int 1) (.int ((M.n : Int) + 1)) s = .ok (.rng 1 1 M.n) s := fun s => by
    rw [mk_r2 (by omega) (by omega) (by omega) (by omega)]
    congr 2
    omega
  have dt : ∀ (q : Int) (env : Env), 0 < q → q < 100 → env[0]? = some (some (.loc s)) → ∀ (x : Int) (s' : Store) (b' : Nat), x ∈ rgI 1 M.n → Src s' s b' → b' ≤ 900000 → ∃ v s'', tst ⟨callK (Wd r) k, (Wd r).repr, (Wd r).wf⟩ (.op2 .eq (.call 11 [(.var 0), (.con (.int q))]) (.con (.int 0))) (env.set 6 (some (.int x))) s' = .ok v s'' ∧ Src s'' s (b' + 1) ∧ Keep [s] s' s'' ∧ (v = true → True) := fun q env q0 q1 he x s' b' hx hr hb' => by
    obtain ⟨v, s'', e, _, _, r2, k2⟩ := draw_ok (r := r) (K := k) (m := q) (by omega) hr (by omega) q0 (by omega)
    have he' : (env.set 6 (some (MV.int x)))[0]? = some (some (.loc s)) := by rw [List.getElem?_set_ne (by decide)]; exact he
    exact ⟨decide (v = 0), s'', by simp [he', e], r2, k2, fun _ => trivial⟩
  obtain ⟨d, s2, D, e2, r2, k2, hd0, hd, hDm, lD⟩ := drawL (C := ⟨callK (Wd r) k, (Wd r).repr, (Wd r).wf⟩) (i := 6) (c := .op2 .eq (.call 11 [(.var 0), (.con (.int 3))]) (.con (.int 0))) (env := [some (.loc s), some (.loc m), some (.int cells), some (.int ((M.n : Int) + 1)), some (.loc w), none, none, none, none, none, none]) (fun _ => True) (by simp) r1 (walks_rng1 (lo := 1) (n := M.n)) (by rw [rgI_len]; omega) (fun x s' b' hx hr hb' _ => dt 3 _ (by decide) (by decide) rfl x s' b' hx hr (by rw [rgI_len] at hb'; omega))
  rw [rgI_len] at r2 lD
  obtain ⟨q, s3, C, e3, r3, k3, hq0, hq, hCm, lC⟩ := drawL (C := ⟨callK (Wd r) k, (Wd r).repr, (Wd r).wf⟩) (i := 6) (c := .op2 .eq (.call 11 [(.var 0), (.con (.int 6))]) (.con (.int 0))) (env := [some (.loc s), some (.loc m), some (.int cells), some (.int ((M.n : Int) + 1)), some (.loc w), some (.loc d), none, none, none, none, none]) (fun _ => True) (by simp) r2 (walks_rng1 (lo := 1) (n := M.n)) (by rw [rgI_len]; omega) (fun x s' b' hx hr hb' _ => dt 6 _ (by decide) (by decide) rfl x s' b' hx hr (by rw [rgI_len] at hb'; omega))
  rw [rgI_len] at r3 lC
  have hDr : ∀ x, x ∈ D → 1 ≤ x ∧ x ≤ M.n := fun x hx => by have := mem_rgI.mp (hDm x hx).1; omega
  have hCr : ∀ x, x ∈ C → 1 ≤ x ∧ x ≤ M.n := fun x hx => by have := mem_rgI.mp (hCm x hx).1; omega
  have k13 : Keep [s] st s3 := k1.trans (k2.trans k3)
  have h3 := h.keep k13 (fun r hr => by simpa using hsA r hr)
  have hsl := hs.lt
  have hws : w ∉ [s] := by simp; omega
  have hds : d ∉ [s] := by have := k1.len; simp; omega
  have hw3 := cel_keep k3 (cel_keep k2 hw hws) hws
  have hd3 := cel_keep k3 hd hds
  obtain ⟨nd, s4, e4, k4, hn0, hN⟩ := needs_ok (r := r) (K := k) (by omega) h3 hn hd3 (by omega) hDr
  have h4 := h3.ext k4
  have hw4 := cel_keep k4 hw3 (by simp)
  have hq4 := cel_keep k4 hq (by simp)
  have hd4 := cel_keep k4 hd3 (by simp)
  have r4 := r3.keep k4 (by simp)
  obtain ⟨ba, s5, e5, k5, hb0, hB⟩ := bars_ok (r := r) (K := k) (by omega) h4 hn hw4 hN hq4 (Nat.le_trans needL_len hn) (by have := wok.2.1; omega) (fun i hi => by have := ok.lW hi; omega) (fun i hi => by have := ok.lN i hi; omega) (fun o ho => (mem_needL.mp ho).1)
  have h5 := h4.ext k5
  have hw5 := cel_keep k5 hw4 (by simp)
  have hq5 := cel_keep k5 hq4 (by simp)
  have hd5 := cel_keep k5 hd4 (by simp)
  have hN5 := cel_keep k5 hN (by simp)
  have r5 := r4.keep k5 (by simp)
  obtain ⟨f1, hf1⟩ : ∃ f1, f1 = (barL M ws (needL M D) C).filter fun o => decide (o ∈ needL M D) := ⟨_, rfl⟩
  have hf1' : f1 = [] ↔ ∀ o, o ∈ needL M D → o ∉ barL M ws (needL M D) C := by
    rw [hf1, List.filter_eq_nil_iff]
    simp only [decide_eq_true_eq]
    exact ⟨fun g o h1 h2 => g o h2 h1, fun g o h1 h2 => g o h2 h1⟩
  have ev1 : evE ⟨callK (Wd r) k, (Wd r).repr, (Wd r).wf⟩ (.lcS (.nm 6) (.var 9) [.op2 .inn (.var 6) (.var 8)] (.var 6)) [some (.loc s), some (.loc m), some (.int cells), some (.int ((M.n : Int) + 1)), some (.loc w), some (.loc d), none, some (.loc q), some (.loc nd), some (.loc ba), none] s5 = .ok (.loc s5.length) (s5 ++ [.lst (f1.map .int)]) := by
    rw [hf1]
    exact ev_filt (xs := barL M ws (needL M D) C) (a := ba) _ (by simp) hB (Nat.le_trans barL_len (by omega)) (fun x acc _ => by
      have hN6 : cel (s5 ++ [.lst acc]) nd = some (.lst ((needL M D).map .int)) := cel_app_old hN5
      simp [hN6]) (by simp)
  have l1 := cel_lt hw
  have l2 := cel_lt hd
  have l3 := cel_lt hq
  have l4 := cel_lt hN
  have l5 := cel_lt hB
  have K1 := k1.len
  have K5 : st.length ≤ s5.length := by have := k2.len; have := k3.len; have := k4.len; have := k5.len; omega
  have fresh : ∀ x, st.length ≤ x → (∀ r, Live M.n r → A r ≠ x) ∧ x ≠ s := fun x hx => ⟨fun r hr => by have := h.lt hr; omega, by omega⟩
  rw [callK_eq (g__law_grow r) rfl, evSs_split _ 7]
  by_cases c : f1 = []
  · have hh : evSs ⟨callK (Wd r) k, (Wd r).repr, (Wd r).wf⟩ (d__law_grow.body.take 7) ([MV.loc s, .loc m, .int cells].map some ++ List.replicate (d__law_grow.ns - [MV.loc s, .loc m, .int cells].length) none) st = .ok (.next [some (.loc s), some (.loc m), some (.int cells), some (.int ((M.n : Int) + 1)), some (.loc w), some (.loc d), none, some (.loc q), some (.loc nd), some (.loc ba), none]) (s5 ++ [.lst []]) := by
      simp [d__law_grow, h.t, h.wl, e1, hr2, e2, e3, e4, e5, -r_lcS, ev1, c]
    obtain ⟨⟨env', sz⟩, st', g1, g2, g3, g4, g5⟩ := tail_grow (r := r) (k := k) (by omega) (h5.ext (Keep.new (t := [.lst []]))) ok hn (r5.app (t := [.lst []])) (by omega) hsA (cel_app_old hw5) (cel_app_old hN5) (cel_app_old hB) (cel_app_old hd5) (cel_app_old hq5) (fun x hx => fresh x (by
      simp only [List.mem_cons, List.not_mem_nil, or_false] at hx
      rcases hx with rfl | rfl | rfl | rfl | rfl
      · exact hw0
      · have := k2.len; have := k3.len; omega
      · have := k2.len; have := k3.len; have := k4.len; omega
      · omega
      · have := k2.len; omega)) (by
      have := k2.len; have := k3.len; have := k4.len
      simp
      omega) wok hDr hCr lD lC (hf1'.mp c)
    have g1' : evSs ⟨callK (Wd r) k, (Wd r).repr, (Wd r).wf⟩ (d__law_grow.body.drop 7) [some (.loc s), some (.loc m), some (.int cells), some (.int ((M.n : Int) + 1)), some (.loc w), some (.loc d), none, some (.loc q), some (.loc nd), some (.loc ba), none] (s5 ++ [.lst []]) = .ok (.next env') st' := g1
    rw [hh, Out.bind_ok, q_ssN, g1']
    refine ⟨(_, _), st', rfl, Grown.mk' g3 (ok.grown wok g2 hDr hCr lD lC (hf1'.mp c)) (g4.mono (by omega)) (k13.trans (k4.weak.trans (k5.weak.trans Keep.new.weak))) g5 ?_⟩
    intro x hx
    simp only [List.mem_cons, List.not_mem_nil, or_false] at hx
    rcases hx with rfl | rfl | rfl | rfl | rfl
    · exact hw0
    · have := k2.len; have := k3.len; omega
    · have := k2.len; have := k3.len; have := k4.len; omega
    · omega
    · have := k2.len; omega
  · have c' : 0 < f1.length := List.length_pos_iff.mpr c
    obtain ⟨s6, hs6⟩ : ∃ s6, s6 = s5 ++ [.lst (f1.map MV.int), .lst [], .lst []] := ⟨_, rfl⟩
    have k6 : Keep [] s5 s6 := by rw [hs6]; exact Keep.new
    have h6 := h5.ext k6
    have hd6 : cel s6 (s5.length + 1) = some (.lst (([] : List Int).map .int)) := by rw [hs6]; simp
    have hN6 : cel s6 (s5.length + 2) = some (.lst ((needL M []).map .int)) := by rw [hs6, needL_nil]; simp
    have hw6 := cel_keep k6 hw5 (by simp)
    have hq6 := cel_keep k6 hq5 (by simp)
    have r6 := r5.keep k6 (by simp)
    have l6 := cel_lt hN6
    obtain ⟨ba2, s7, e7, k7, hb7, hB7⟩ := bars_ok (r := r) (K := k) (by omega) h6 hn hw6 hN6 hq6 (Nat.le_trans needL_len hn) (by have := wok.2.1; omega) (fun i hi => by have := ok.lW hi; omega) (fun i hi => by have := ok.lN i hi; omega) (fun o ho => (mem_needL.mp ho).1)
    have l7 := cel_lt hB7
    have hh : evSs ⟨callK (Wd r) k, (Wd r).repr, (Wd r).wf⟩ (d__law_grow.body.take 7) ([MV.loc s, .loc m, .int cells].map some ++ List.replicate (d__law_grow.ns - [MV.loc s, .loc m, .int cells].length) none) st = .ok (.next [some (.loc s), some (.loc m), some (.int cells), some (.int ((M.n : Int) + 1)), some (.loc w), some (.loc (s5.length + 1)), none, some (.loc q), some (.loc (s5.length + 2)), some (.loc ba2), none]) s7 := by
      simp [d__law_grow, h.t, h.wl, e1, hr2, e2, e3, e4, e5, -r_lcS, ev1, c', newL_ok, sizeMax, ← hs6, e7]
    have hno : ∀ o, o ∈ needL M [] → o ∉ barL M ws (needL M []) C := fun o ho => by rw [needL_nil] at ho; cases ho
    obtain ⟨⟨env', sz⟩, st', g1, g2, g3, g4, g5⟩ := tail_grow (r := r) (k := k) (by omega) (h6.ext k7) ok hn (r6.keep k7 (by simp)) (by omega) hsA (cel_keep k7 hw6 (by simp)) (cel_keep k7 hN6 (by simp)) hB7 (cel_keep k7 hd6 (by simp)) (cel_keep k7 hq6 (by simp)) (fun x hx => fresh x (by
      simp only [List.mem_cons, List.not_mem_nil, or_false] at hx
      rcases hx with rfl | rfl | rfl | rfl | rfl
      · exact hw0
      · omega
      · have := k6.len; omega
      · omega
      · have := k2.len; omega)) (by
      have := k2.len; have := k3.len; have := k4.len; have := k5.len; have := k6.len
      simp
      omega) wok (by simp) hCr (by simp) lC hno
    have g1' : evSs ⟨callK (Wd r) k, (Wd r).repr, (Wd r).wf⟩ (d__law_grow.body.drop 7) [some (.loc s), some (.loc m), some (.int cells), some (.int ((M.n : Int) + 1)), some (.loc w), some (.loc (s5.length + 1)), none, some (.loc q), some (.loc (s5.length + 2)), some (.loc ba2), none] s7 = .ok (.next env') st' := g1
    rw [hh, Out.bind_ok, q_ssN, g1']
    refine ⟨(_, _), st', rfl, Grown.mk' g3 (ok.grown wok g2 (by simp) hCr (by simp) lC hno) (g4.mono (by omega)) (k13.trans (k4.weak.trans (k5.weak.trans (k6.weak.trans k7.weak)))) g5 ?_⟩
    intro x hx
    simp only [List.mem_cons, List.not_mem_nil, or_false] at hx
    rcases hx with rfl | rfl | rfl | rfl | rfl
    · exact hw0
    · omega
    · have := k6.len; omega
    · omega
    · have := k2.len; omega
theorem needL_closed {M : Md} {cells : Nat} {D : List Int} (ok : MdOk M cells) (hD : ∀ x, x ∈ D → 1 ≤ x ∧ x ≤ M.n) {y x : Int} (hy : y ∈ needL M D) (hx : x ∈ M.N y.toNat) : x ∈ needL M D := by
  obtain ⟨a, b⟩ := mem_needL.mp hy
  have r := ok.Nr (by omega) hx
  refine mem_needL.mpr ⟨by omega, .inr ?_⟩
  rcases b with b | ⟨o, ho, b⟩
  · exact ⟨y, b, hx⟩
  · have := hD o ho
    exact ⟨o, ho, ok.T _ (by omega) y b x hx⟩
theorem free_no {M : Md} {cells : Nat} {ws : List (Int × Int)} {D C : List Int} (ok : MdOk M cells) (hD : ∀ x, x ∈ D → 1 ≤ x ∧ x ≤ M.n) (hC : ∀ x, x ∈ C → x ∉ needL M D) (hcf : ∀ o p, o ∈ needL M D → p ∈ needL M D → o ∉ M.B p.toNat) : ∀ o, o ∈ needL M D → o ∉ barL M ws (needL M D) C := by
  have nh : ∀ o, o ∈ needL M D → ¬hitR M ws (needL M D) C o.toNat := fun o ho g => by
    have ho2 := (mem_needL.mp ho).1
    have e : ((o.toNat : Nat) : Int) = o := Int.toNat_of_nonneg (by omega)
    unfold hitR at g
    rw [e] at g
    rcases g with g | ⟨p, hp, g⟩ | ⟨_, g⟩
    · exact hC o g ho
    · exact hcf o p ho hp g
    · exact g ho
  intro o ho g
  have ho2 := (mem_needL.mp ho).1
  obtain ⟨n, rfl⟩ := Int.eq_ofNat_of_zero_le (by omega : 0 ≤ o)
  rw [mem_barL (fun x hx => by have := ok.Nr (by omega) hx; omega)] at g
  rcases g.2 with g | ⟨p, hp, g⟩
  · exact nh n ho g
  · exact nh p (needL_closed ok hD ho hp) g
theorem put_ok {r : MV → Txt} {K s b m d cells L : Nat} {A : Rl → Nat} {M : Md} {D : List Int} {st : Store} (hK : 3 ≤ K) (h : ModelAt st m A M) (ok : MdOk M cells) (hn : M.n ≤ 1000) (hc : 1 ≤ cells) (hc2 : cells ≤ 1000) (hs : Src st s b) (hb : b ≤ 800000) (hsA : ∀ r, Live M.n r → A r ≠ s)
    (hd : cel st d = some (.lst (D.map .int))) (hds : d ≠ s) (hdA : ∀ r, Live M.n r → A r ≠ d) (hDr : ∀ x, x ∈ D → 1 ≤ x ∧ x ≤ M.n) (lD : D.length ≤ M.n) (hcf : ∀ o p, o ∈ needL M D → p ∈ needL M D → o ∉ M.B p.toNat) (hL : L ≤ st.length) (hL2 : L ≤ d) :
    ∃ (p : (Rl → Nat) × Md) (st' : Store), callK (Wd r) K 20 [.loc s, .loc m, .int cells, .loc d] st = .ok .non st' ∧ Grown L st st' m s (b + M.n + 6) A M cells p.1 p.2 := by
  obtain ⟨k, rfl⟩ : ∃ k, K = k + 1 := ⟨K - 1, by omega⟩
  obtain ⟨w, s1, e1, r1, k1, hw0, ws, hw, wok⟩ := writes_ok (r := r) (K := k) (c := cells) (by omega) hs (by omega) hc hc2
  have h1 := h.keep k1 (fun r hr => by simpa using hsA r hr)
  have hsl := hs.lt
  have hdl := cel_lt hd
  have hws : w ∉ [s] := by simp; omega
  have hds' : d ∉ [s] := by simpa using hds
  have hd1 := cel_keep k1 hd hds'
  obtain ⟨nd, s2, e2, k2, hn0, hN⟩ := needs_ok (r := r) (K := k) (by omega) h1 hn hd1 (by omega) hDr
  have h2 := h1.ext k2
  have hw2 := cel_keep k2 hw (by simp)
  have hd2 := cel_keep k2 hd1 (by simp)
  have r2 := r1.keep k2 (by simp)
  have hr2 : ∀ s, mkR2 (.int 1) (.int ((M.n : Int) + 1)) s = .ok (.rng 1 1 M.n) s := fun s => by
    rw [mk_r2 (by omega) (by omega) (by omega) (by omega)]
    congr 2
    omega
  have K1 := k1.len
  have K2 := k2.len
  have hns : nd ∉ [s] := by simp; omega
  obtain ⟨q, s3, C, e3, r3, k3, hq0, hq, hCm, lC⟩ := drawL (C := ⟨callK (Wd r) k, (Wd r).repr, (Wd r).wf⟩) (i := 8) (c := .and (.op2 .notIn (.var 8) (.var 6)) (.op2 .eq (.call 11 [(.var 0), (.con (.int 16))]) (.con (.int 0)))) (env := [some (.loc s), some (.loc m), some (.int cells), some (.loc d), some (.int ((M.n : Int) + 1)), some (.loc w), some (.loc nd), none, none, none, none]) (fun x => x ∉ needL M D) (by simp) r2 (walks_rng1 (lo := 1) (n := M.n)) (by rw [rgI_len]; omega) (fun x s' b' hx hr hb' hk => by
    have hN' := cel_keep hk hN hns
    rw [rgI_len] at hb'
    by_cases c : x ∈ needL M D
    · exact ⟨false, s', by simp [hN', c], hr.mono (by omega), Keep.refl, by simp⟩
    · obtain ⟨v, s'', e, _, _, r2, k2⟩ := draw_ok (r := r) (K := k) (m := 16) (by omega) hr (by omega) (by omega) (by omega)
      exact ⟨decide (v = 0), s'', by simp [hN', c, e], r2, k2, fun _ => c⟩)
  rw [rgI_len] at r3 lC
  have hCr : ∀ x, x ∈ C → 1 ≤ x ∧ x ≤ M.n := fun x hx => by have := mem_rgI.mp (hCm x hx).1; omega
  have h3 := h2.keep k3 (fun r hr => by simpa using hsA r hr)
  have hw3 := cel_keep k3 hw2 hws
  have hd3 := cel_keep k3 hd2 hds'
  have hN3 := cel_keep k3 hN hns
  obtain ⟨ba, s5, e5, k5, hb0, hB⟩ := bars_ok (r := r) (K := k) (by omega) h3 hn hw3 hN3 hq (Nat.le_trans needL_len hn) (by have := wok.2.1; omega) (fun i hi => by have := ok.lW hi; omega) (fun i hi => by have := ok.lN i hi; omega) (fun o ho => (mem_needL.mp ho).1)
  have h5 := h3.ext k5
  have hno := free_no (ws := ws) (C := C) ok hDr (fun x hx => (hCm x hx).2) hcf
  have l1 := cel_lt hw
  have l3 := cel_lt hq
  have l4 := cel_lt hN
  have l5 := cel_lt hB
  have K3 := k3.len
  have fresh : ∀ x, st.length ≤ x → (∀ r, Live M.n r → A r ≠ x) ∧ x ≠ s := fun x hx => ⟨fun r hr => by have := h.lt hr; omega, by omega⟩
  rw [callK_eq (g__law_put r) rfl, evSs_split _ 5]
  have hh : evSs ⟨callK (Wd r) k, (Wd r).repr, (Wd r).wf⟩ (d__law_put.body.take 5) ([MV.loc s, .loc m, .int cells, .loc d].map some ++ List.replicate (d__law_put.ns - [MV.loc s, .loc m, .int cells, .loc d].length) none) st = .ok (.next [some (.loc s), some (.loc m), some (.int cells), some (.loc d), some (.int ((M.n : Int) + 1)), some (.loc w), some (.loc nd), some (.loc q), none, some (.loc ba), none]) s5 := by
    simp [d__law_put, h.t, h.wl, e1, hr2, e2, e3, e5]
  obtain ⟨⟨env', sz⟩, st', g1, g2, g3, g4, g5⟩ := tail_put (r := r) (k := k) (by omega) h5 ok hn (r3.keep k5 (by simp)) (by omega) hsA (cel_keep k5 hw3 (by simp)) (cel_keep k5 hN3 (by simp)) hB (cel_keep k5 hd3 (by simp)) (cel_keep k5 hq (by simp)) (fun x hx => by
    simp only [List.mem_cons, List.not_mem_nil, or_false] at hx
    rcases hx with rfl | rfl | rfl | rfl | rfl
    · exact fresh _ hw0
    · exact fresh _ (by omega)
    · exact fresh _ (by omega)
    · exact ⟨hdA, hds⟩
    · exact fresh _ (by omega)) (by
    simp
    omega) wok hDr hCr lD lC hno
  have g1' : evSs ⟨callK (Wd r) k, (Wd r).repr, (Wd r).wf⟩ (d__law_put.body.drop 5) [some (.loc s), some (.loc m), some (.int cells), some (.loc d), some (.int ((M.n : Int) + 1)), some (.loc w), some (.loc nd), some (.loc q), none, some (.loc ba), none] s5 = .ok (.next env') st' := g1
  rw [hh, Out.bind_ok, q_ssN, g1']
  refine ⟨(_, _), st', rfl, Grown.mk' g3 (ok.grown wok g2 hDr hCr lD lC hno) (g4.mono (by omega)) (k1.trans (k2.weak.trans (k3.trans k5.weak))) g5 ?_⟩
  intro x hx
  simp only [List.mem_cons, List.not_mem_nil, or_false] at hx
  rcases hx with rfl | rfl | rfl | rfl | rfl
  · omega
  · omega
  · omega
  · exact hL2
  · omega
end Mini
namespace Mini
theorem Keep.tail {w F : List Nat} {a b c : Store} (h : Keep w a b) (g : Keep F b c) (hF : ∀ x, x ∈ F → x ∈ w ∨ a.length ≤ x) : Keep w a c := ⟨Nat.le_trans h.len g.len, fun n x hn e => g.get n x (fun z => by
  rcases hF n z with z | z
  · exact hn z
  · have := (List.getElem?_eq_some_iff.mp e).1
    omega) (h.get n x hn e)⟩
def Md0 (base : List Int) : Md := ⟨0, base, fun _ => [], fun _ => 0, fun _ => [], fun _ => [], fun _ => [], fun _ => []⟩
theorem Md0_ok (base : List Int) : MdOk (Md0 base) base.length := by
  refine ⟨rfl, rfl, fun i a b => ?_, fun i _ => Int.le_refl 0, fun i _ x hx => ?_, fun i _ x hx => ?_, fun i _ => Nat.zero_le _, fun i _ => Nat.zero_le _, fun i _ => Nat.zero_le _, fun i _ => Nat.zero_le _, fun i hi x => ?_, fun i _ y hy => ?_, fun i j a b => ?_, fun i _ x hx => ?_, fun i a b => ?_, fun i _ o ho => ?_⟩
  · have : i ≤ 0 := b
    omega
  · cases hx
  · cases hx
  · have : i ≤ 0 := hi
    constructor
    · intro z
      cases z
    · rintro ⟨⟨a, b⟩, _⟩
      omega
  · cases hy
  · have : i ≤ 0 := b
    omega
  · cases hx
  · have : i ≤ 0 := b
    omega
  · cases ho
def A0 (bs L : Nat) : Rl → Nat
  | .top => L + 11 | .base => bs | .wl => L + 1 | .sl => L + 2 | .nl => L + 4 | .bl => L + 6 | .dl => L + 8 | .cl => L + 10 | .w _ => L | .n _ => L + 3 | .b _ => L + 5 | .d _ => L + 7 | .c _ => L + 9
/-- the seven rows of a model without patches -/
def news (bs L : Nat) : List Cell := [.lst [], .lst [.loc L], .lst [.int 0], .lst [], .lst [.loc (L + 3)], .lst [], .lst [.loc (L + 5)], .lst [], .lst [.loc (L + 7)], .lst [], .lst [.loc (L + 9)], .lst [.loc bs, .loc (L + 1), .loc (L + 2), .loc (L + 4), .loc (L + 6), .loc (L + 8), .loc (L + 10)]]
theorem model0 {st : Store} {bs : Nat} {base : List Int} (h : cel st bs = some (.lst (base.map .int))) : ModelAt (st ++ news bs st.length) (st.length + 11) (A0 bs st.length) (Md0 base) := by
  have hlt := cel_lt h
  refine ⟨rfl, fun r hr => ?_, fun r s hr hs e => ?_⟩
  · have z : ∀ i, i ≤ (Md0 base).n → i = 0 := fun i h => Nat.le_zero.mp h
    cases r with
    | base => exact cel_app_old h
    | _ => simp [A0, news, cont, Md0, prs]
  · have z : ∀ i, i ≤ (Md0 base).n → i = 0 := fun i h => Nat.le_zero.mp h
    cases r <;> cases s <;> simp only [A0] at e <;> first | rfl | omega | (rw [z _ hr, z _ hs])
/-- a row that is drawn -/
theorem baseL {r : MV → Txt} {k s b n : Nat} {env : Env} {st : Store} (hk : 1 ≤ k) (h : Src st s b) (hb : b ≤ 800000) (hn : n ≤ 1000) (he : env[0]? = some (some (.loc s))) :
    ∃ (a : Nat) (st' : Store) (L : List Int), lcRun (.rng 0 1 n) (lcTurn ⟨callK (Wd r) k, (Wd r).repr, (Wd r).wf⟩ (.nm 4) [] (.op2 .sub (.call 11 [(.var 0), (.con (.int 2001))]) (.con (.int 1000))) env) st = .ok (.loc a) st' ∧ Src st' s (b + n) ∧ Keep [s] st st' ∧ st.length ≤ a ∧ cel st' a = some (.lst (L.map MV.int)) ∧ L.length = n := by
  have hsl := h.lt
  suffices ∃ (p : Nat × List Int) (st' : Store), lcRun (.rng 0 1 n) (lcTurn ⟨callK (Wd r) k, (Wd r).repr, (Wd r).wf⟩ (.nm 4) [] (.op2 .sub (.call 11 [(.var 0), (.con (.int 2001))]) (.con (.int 1000))) env) st = .ok (.loc p.1) st' ∧ Src st' s (b + n) ∧ Keep [s] st st' ∧ st.length ≤ p.1 ∧ cel st' p.1 = some (.lst (p.2.map MV.int)) ∧ p.2.length = n by
    obtain ⟨p, st', h⟩ := this
    exact ⟨p.1, st', p.2, h⟩
  refine OkQ.ex (fun p : Nat × List Int => MV.loc p.1) fun Q hQ => ?_
  refine okQ_lcRng (by unfold sizeMax; omega) (fun i s' => Src s' s (b + i) ∧ Keep [s] st s') (fun y => ∃ z, y = .int z ∧ True) ⟨h.app.mono (by omega), Keep.new.weak⟩ (fun i s' c hI => ⟨hI.1.set (by omega), hI.2.setNew (Nat.le_refl _)⟩) (fun i s' hi hI => ?_) (fun acc s' hc hl hR hI => ?_)
  · obtain ⟨v, s'', e, _, _, r2, k2⟩ := draw_ok (r := r) (K := k) (m := 2001) hk hI.1 (by omega) (by omega) (by omega)
    have he' : ∀ x, (env.set 4 (some (MV.int x)))[0]? = some (some (.loc s)) := fun x => by rw [List.getElem?_set_ne (by decide)]; exact he
    simp [he', e]
    refine ⟨fun c hc => cel_keep k2 hc (by simp; omega), ?_, hI.2.trans k2⟩
    exact r2
  · obtain ⟨L, rfl, _⟩ := ints_of hR
    exact hQ (_, L) s' ⟨hI.1, hI.2, Nat.le_refl _, hc, by simpa using hl⟩
/-- a model is made -/
theorem model_ok {r : MV → Txt} {K s b most cells : Nat} {st : Store} (hK : 4 ≤ K) (hs : Src st s b) (hb : b ≤ 100000) (hm : most ≤ 30) (hc : 1 ≤ cells) (hc2 : cells ≤ 1000) :
    ∃ (m : Nat) (st' : Store), callK (Wd r) K 16 [.loc s, .int most, .int cells] st = .ok (.loc m) st' ∧ Keep [s] st st' ∧ ∃ A M, ModelAt st' m A M ∧ MdOk M cells ∧ M.n ≤ most ∧ ∀ r, Live M.n r → st.length ≤ A r := by
  obtain ⟨k, rfl⟩ : ∃ k, K = k + 1 := ⟨K - 1, by omega⟩
  refine OkQ.ex MV.loc fun Q hQ => ?_
  rw [callK_eq (g__law_model r) rfl]
  obtain ⟨bs, s1, L, e1, r1, k1, hb1, hbs, hL⟩ := baseL (r := r) (k := k) (n := cells) (env := [some (.loc s), some (.int most), some (.int cells), none, none, none, none]) (by omega) hs (by omega) hc2 rfl
  have h0 := model0 hbs
  have hlt := cel_lt hbs
  have r2 : Src (s1 ++ news bs s1.length) s (b + cells) := r1.app
  obtain ⟨v, s2, e2, v0, v1, r3, k2⟩ := draw_ok (r := r) (K := k) (m := (most : Int) + 1) (by omega) r2 (by omega) (by omega) (by omega)
  have hsl := hs.lt
  have K1 := k1.len
  have hA0 : ∀ r, Live (Md0 L).n r → st.length ≤ A0 bs s1.length r := fun r _ => by
    cases r <;> simp only [A0] <;> omega
  have h2 := h0.keep k2 (fun r hr => by have := hA0 r hr; simp; omega)
  have hr1 : ∀ s, mkR1 (.int (cells : Int)) s = .ok (.rng 0 1 cells) s := fun s => by rw [mk_r1 (by omega) (by omega)]; rfl
  have hr2 : ∀ s, mkR1 (.int v) s = .ok (.rng 0 1 v.toNat) s := fun s => mk_r1 (by omega) (by omega)
  have hst : s1 ++ [.lst [], .lst [.loc s1.length], .lst [.int 0], .lst [], .lst [.loc (s1.length + 3)], .lst [], .lst [.loc (s1.length + 5)], .lst [], .lst [.loc (s1.length + 7)], .lst [], .lst [.loc (s1.length + 9)], .lst [.loc bs, .loc (s1.length + 1), .loc (s1.length + 2), .loc (s1.length + 4), .loc (s1.length + 6), .loc (s1.length + 8), .loc (s1.length + 10)]] = s1 ++ news bs s1.length := rfl
  simp [d__law_model, hr1, e1, newL_ok, sizeMax, hst, e2, hr2]
  simp only [okQ_bind]
  refine okQ_rng (fun i e s' => ∃ A M, e = [some (.loc s), some (.int most), some (.int cells), some (.loc bs), none, some (.loc (s1.length + 11)), none] ∧ ModelAt s' (s1.length + 11) A M ∧ MdOk M cells ∧ M.n = i ∧ Src s' s (b + cells + 1 + 66 * i) ∧ Keep [s] st s' ∧ ∀ r, Live M.n r → st.length ≤ A r) ⟨_, _, rfl, h2, by rw [← hL]; exact Md0_ok L, rfl, r3, k1.trans (Keep.new.weak.trans k2), hA0⟩ ?_ ?_
  · rintro i e s' hi ⟨A, M, rfl, hM, ok, hn, hr, hk, hA⟩
    obtain ⟨⟨A', M'⟩, s3, g1, g2⟩ := grow_ok (r := r) (K := k) (by omega) hM ok (by omega) hc hc2 hr (by omega) (fun r hr => by have := hA r hr; omega)
    replace g2 : Grown s'.length s' s3 (s1.length + 11) s (b + cells + 1 + 66 * i + 2 * M.n + 6) A M cells A' M' := g2
    simp [g1]
    obtain ⟨ws, sz, D, C, e⟩ := g2.ext
    have hn' : M'.n = M.n + 1 := by rw [e]; rfl
    refine ⟨A', M', g2.at_, g2.ok, by omega, g2.src.mono (by omega), ?_, ?_⟩
    · refine hk.tail g2.keep fun x hx => ?_
      rcases List.mem_cons.mp hx with rfl | hx
      · exact .inl (by simp)
      · obtain ⟨r, hr, rfl⟩ := foot_live hx
        exact .inr (hA r hr)
    · intro r hr
      rw [hn'] at hr
      rcases g2.new r hr with ⟨h1, h2⟩ | h2
      · rw [h2]
        exact hA r h1
      · have := hk.len
        omega
  · rintro e s' ⟨A, M, rfl, hM, ok, hn, hr, hk, hA⟩
    simp
    exact hQ _ _ ⟨hk, A, M, hM, ok, by omega, hA⟩
/-- a set of numbers that is closed and free of bars -/
def Cl (M : Md) (l : List Int) : Prop := (∀ x, x ∈ l → 1 ≤ x ∧ x ≤ M.n) ∧ (∀ x, x ∈ l → ∀ o, o ∈ M.N x.toNat → o ∈ l) ∧ ∀ x, x ∈ l → ∀ y, y ∈ l → x ∉ M.B y.toNat
theorem Cl.nil (M : Md) : Cl M [] := ⟨by simp, by simp, by simp⟩
theorem Cl.snoc {M : Md} {cells i : Nat} {l : List Int} (ok : MdOk M cells) (h : Cl M l) (hf : Fits M l i) (h1 : 1 ≤ i) (h2 : i ≤ M.n) : Cl M (l ++ [(i : Int)]) := by
  refine ⟨fun x hx => ?_, fun x hx o ho => ?_, fun x hx y hy => ?_⟩
  · rcases List.mem_append.mp hx with hx | hx
    · exact h.1 x hx
    · rw [List.mem_singleton.mp hx]
      omega
  · rcases List.mem_append.mp hx with hx | hx
    · exact List.mem_append_left _ (h.2.1 x hx o ho)
    · rw [List.mem_singleton.mp hx] at ho
      exact List.mem_append_left _ (hf.1 o ho)
  · rcases List.mem_append.mp hx with hx | hx <;> rcases List.mem_append.mp hy with hy | hy
    · exact h.2.2 x hx y hy
    · rw [List.mem_singleton.mp hy]
      exact fun z => hf.2 x z hx
    · rw [List.mem_singleton.mp hx]
      have := h.1 y hy
      intro z
      have z2 := (ok.Bs y.toNat i (by omega) (by omega) h1 h2).mp z
      rw [Int.toNat_of_nonneg (by omega)] at z2
      exact hf.2 y z2 hy
    · rw [List.mem_singleton.mp hx, List.mem_singleton.mp hy]
      exact fun z => (ok.Br i h2 _ z).2.2 rfl
/-- the closure of a part of a closed set is a part of it -/
theorem Cl.need {M : Md} {l D : List Int} (h : Cl M l) (hD : ∀ x, x ∈ D → x ∈ l) {x : Int} (hx : x ∈ needL M D) : x ∈ l := by
  rcases (mem_needL.mp hx).2 with g | ⟨o, ho, g⟩
  · exact hD x g
  · exact h.2.1 o (hD o ho) x g
open Classical in
theorem version_ok {r : MV → Txt} {K s b m cells : Nat} {A : Rl → Nat} {M : Md} {st : Store} (hK : 2 ≤ K) (h : ModelAt st m A M) (ok : MdOk M cells) (hn : M.n ≤ 900) (hs : Src st s b) (hb : b ≤ 800000) (hsA : ∀ r, Live M.n r → A r ≠ s) :
    ∃ (l : List Int) (st' : Store), callK (Wd r) K 19 [.loc s, .loc m] st = .ok (.tup (l.map MV.int)) st' ∧ Src st' s (b + M.n) ∧ Keep [s] st st' ∧ l.length ≤ M.n ∧ Cl M l ∧ l.Pairwise (· < ·) := by
  obtain ⟨k, rfl⟩ : ∃ k, K = k + 1 := ⟨K - 1, by omega⟩
  refine OkQ.ex (fun l : List Int => MV.tup (l.map MV.int)) fun Q hQ => ?_
  rw [callK_eq (g__law_version r) rfl]
  have hr2 : ∀ s, mkR2 (.int 1) (.int ((M.n : Int) + 1)) s = .ok (.rng 1 1 M.n) s := fun s => by
    rw [mk_r2 (by omega) (by omega) (by omega) (by omega)]
    congr 2
    omega
  have h1 := h.ext (Keep.new (t := [.lst []]))
  have hsl := hs.lt
  simp [d__law_version, newL_ok, h1.t, h1.wl, hr2]
  simp only [okQ_bind]
  refine okQ_rng (fun i e s' => ∃ l : List Int, e = [some (.loc s), some (.loc m), some (.loc st.length), none] ∧ cel s' st.length = some (.lst (l.map .int)) ∧ Src s' s (b + i) ∧ Keep [s] st s' ∧ l.length ≤ i ∧ Cl M l ∧ l.Pairwise (· < ·) ∧ ∀ x, x ∈ l → x ≤ i) ⟨[], rfl, by simp, hs.app.mono (by omega), Keep.new.weak, by simp, Cl.nil M, by simp, by simp⟩ ?_ ?_
  · rintro i e s' hi ⟨l, rfl, hT, hr, hk, hl, hcl, hpw, hlt⟩
    obtain ⟨v, s2, e2, v0, v1, r2, k2⟩ := draw_ok (r := r) (K := k) (m := 2) (by omega) hr (by omega) (by omega) (by omega)
    have hT2 := cel_keep k2 hT (by simp; omega)
    have h2 := h.keep (hk.trans k2) (fun r hr => by simpa using hsA r hr)
    have ef := fits_ok (r := r) (K := k) (i := i + 1) (by omega) h2 hT2 (by omega)
    have ec : (1 : Int) + (i : Int) = ((i + 1 : Nat) : Int) := by omega
    have hsm : l.length < 16000000 := by omega
    simp only [Int.mul_one, ec]
    by_cases c1 : v = 1
    · by_cases c2 : Fits M l (i + 1)
      · rw [decide_eq_true c2] at ef
        simp only [Int.natCast_add, Int.natCast_one] at ef
        simp [e2, c1, ef, hT2, appV_ok, hsm]
        refine ⟨l ++ [((i + 1 : Nat) : Int)], ?_, r2.set (by omega), (hk.trans k2).setNew (Nat.le_refl _), by simp; omega, hcl.snoc ok c2 (by omega) (by omega), pairwise_snoc hpw hlt (by omega), ?_⟩
        · rw [cel_set _ _ _ (cel_lt hT2)]
          simp
        · intro x hx
          rcases List.mem_append.mp hx with hx | hx
          · have := hlt x hx
            omega
          · rw [List.mem_singleton.mp hx]
            omega
      · rw [decide_eq_false c2] at ef
        simp only [Int.natCast_add, Int.natCast_one] at ef
        simp [e2, c1, ef]
        exact ⟨l, hT2, r2, hk.trans k2, by omega, hcl, hpw, fun x hx => by have := hlt x hx; omega⟩
    · simp [e2, c1]
      exact ⟨l, hT2, r2, hk.trans k2, by omega, hcl, hpw, fun x hx => by have := hlt x hx; omega⟩
  · rintro e s' ⟨l, rfl, hT, hr, hk, hl, hcl, hpw, hlt⟩
    have hsm : (l.map MV.int).length ≤ 1000 := by rw [List.length_map]; omega
    simp [hT]
    rw [tpV_ok hsm]
    simp
    exact hQ _ _ ⟨hr, hk, hl, hcl, hpw⟩
open Classical in
theorem rich_ok {r : MV → Txt} {K s b most cells : Nat} {st : Store} (hK : 4 ≤ K) (hs : Src st s b) (hb : b ≤ 100000) (hm : most ≤ 30) (hc : 1 ≤ cells) (hc2 : cells ≤ 1000) :
    ∃ (m : Nat) (st' : Store), callK (Wd r) K 21 [.loc s, .int most, .int cells] st = .ok (.loc m) st' ∧ Keep [s] st st' ∧ ∃ A M, ModelAt st' m A M ∧ MdOk M cells ∧ M.n ≤ most ∧ ∀ r, Live M.n r → st.length ≤ A r := by
  obtain ⟨k, rfl⟩ : ∃ k, K = k + 1 := ⟨K - 1, by omega⟩
  refine OkQ.ex MV.loc fun Q hQ => ?_
  rw [callK_eq (g__law_rich r) rfl]
  obtain ⟨bs, s1, L, e1, r1, k1, hb1, hbs, hL⟩ := baseL (r := r) (k := k) (n := cells) (env := [some (.loc s), some (.int most), some (.int cells), none, none, none, none, none, none]) (by omega) hs (by omega) hc2 rfl
  have h0 := model0 hbs
  have hlt := cel_lt hbs
  have r2 : Src (s1 ++ news bs s1.length) s (b + cells) := r1.app
  obtain ⟨v, s2, e2, v0, v1, r3, k2⟩ := draw_ok (r := r) (K := k) (m := (most : Int) + 1) (by omega) r2 (by omega) (by omega) (by omega)
  obtain ⟨u, s3, e3, u0, u1, r4, k3⟩ := draw_ok (r := r) (K := k) (m := (most : Int) + 1) (by omega) r3 (by omega) (by omega) (by omega)
  have hsl := hs.lt
  have K1 := k1.len
  have hA0 : ∀ r, Live (Md0 L).n r → st.length ≤ A0 bs s1.length r := fun r _ => by
    cases r <;> simp only [A0] <;> omega
  have h2 := (h0.keep k2 (fun r hr => by have := hA0 r hr; simp; omega)).keep k3 (fun r hr => by have := hA0 r hr; simp; omega)
  have hr1 : ∀ s, mkR1 (.int (cells : Int)) s = .ok (.rng 0 1 cells) s := fun s => by rw [mk_r1 (by omega) (by omega)]; rfl
  obtain ⟨z, hz⟩ : ∃ z : Int, z = if u > v then u else v := ⟨_, rfl⟩
  have hz1 : 0 ≤ z ∧ z ≤ most := by
    rw [hz]
    by_cases g : u > v
    · rw [if_pos g]; omega
    · rw [if_neg g]; omega
  have ez : ∀ C s, prim C .max2 [.int v, .int u] s = .ok (.int z) s := fun C s => by rw [hz]; rfl
  have hr2 : ∀ s, mkR1 (.int z) s = .ok (.rng 0 1 z.toNat) s := fun s => mk_r1 (by omega) (by omega)
  have hst : s1 ++ [.lst [], .lst [.loc s1.length], .lst [.int 0], .lst [], .lst [.loc (s1.length + 3)], .lst [], .lst [.loc (s1.length + 5)], .lst [], .lst [.loc (s1.length + 7)], .lst [], .lst [.loc (s1.length + 9)], .lst [.loc bs, .loc (s1.length + 1), .loc (s1.length + 2), .loc (s1.length + 4), .loc (s1.length + 6), .loc (s1.length + 8), .loc (s1.length + 10)]] = s1 ++ news bs s1.length := rfl
  simp [d__law_rich, hr1, e1, newL_ok, sizeMax, hst, e2, e3, -p_max2, ez, hr2]
  simp only [okQ_bind]
  refine okQ_rng (fun i e s' => ∃ A M x8, e = [some (.loc s), some (.int most), some (.int cells), some (.loc bs), none, some (.loc (s1.length + 11)), none, none, x8] ∧ ModelAt s' (s1.length + 11) A M ∧ MdOk M cells ∧ M.n = i ∧ Src s' s (b + cells + 2 + 100 * i) ∧ Keep [s] st s' ∧ ∀ r, Live M.n r → st.length ≤ A r) ⟨_, _, none, rfl, h2, by rw [← hL]; exact Md0_ok L, rfl, r4, k1.trans (Keep.new.weak.trans (k2.trans k3)), hA0⟩ ?_ ?_
  · rintro i e s' hi ⟨A, M, x8, rfl, hM, ok, hn, hr, hk, hA⟩
    have hkl := hk.len
    have hr3 : ∀ s, mkR2 (.int 1) (.int ((M.n : Int) + 1)) s = .ok (.rng 1 1 M.n) s := fun s => by
      rw [mk_r2 (by omega) (by omega) (by omega) (by omega)]
      congr 2
      omega
    have hsA : ∀ r, Live M.n r → A r ≠ s := fun r hr => by have := hA r hr; omega
    have hM1 := hM.ext (Keep.new (t := [.lst []]))
    simp [newL_ok, hM1.t, hM1.wl, hr3]
    simp only [okQ_bind]
    refine okQ_rng (fun j e s'' => ∃ (l : List Int) (x8 : Option MV), e = [some (.loc s), some (.int most), some (.int cells), some (.loc bs), none, some (.loc (s1.length + 11)), some (.int i), some (.loc s'.length), x8] ∧ cel s'' s'.length = some (.lst (l.map .int)) ∧ Src s'' s (b + cells + 2 + 100 * i + j) ∧ Keep [s] s' s'' ∧ l.length ≤ j ∧ Cl M l) ⟨[], x8, by simp, by simp, hr.app, Keep.new.weak, by simp, Cl.nil M⟩ ?_ ?_
    · rintro j e s'' hj ⟨l, x8, rfl, hT, hr', hk', hl, hcl⟩
      obtain ⟨v, t2, f2, w0, w1, r5, k5⟩ := draw_ok (r := r) (K := k) (m := 3) (by omega) hr' (by omega) (by omega) (by omega)
      have hT2 := cel_keep k5 hT (by simp; omega)
      have h2 := hM.keep (hk'.trans k5) (fun r hr => by simpa using hsA r hr)
      have ef := fits_ok (r := r) (K := k) (i := j + 1) (by omega) h2 hT2 (by omega)
      have ec : (1 : Int) + (j : Int) = ((j + 1 : Nat) : Int) := by omega
      have hsm : l.length < 16000000 := by omega
      simp only [Int.mul_one, ec]
      by_cases c1 : 0 < v
      · by_cases c2 : Fits M l (j + 1)
        · rw [decide_eq_true c2] at ef
          simp only [Int.natCast_add, Int.natCast_one] at ef
          simp [f2, c1, ef, hT2, appV_ok, hsm]
          refine ⟨l ++ [((j + 1 : Nat) : Int)], ?_, r5.set (by omega), (hk'.trans k5).setNew (Nat.le_refl _), by simp; omega, hcl.snoc ok c2 (by omega) (by omega)⟩
          rw [cel_set _ _ _ (cel_lt hT2)]
          simp
        · rw [decide_eq_false c2] at ef
          simp only [Int.natCast_add, Int.natCast_one] at ef
          simp [f2, c1, ef]
          exact ⟨l, hT2, r5, hk'.trans k5, by omega, hcl⟩
      · simp [f2, c1]
        exact ⟨l, hT2, r5, hk'.trans k5, by omega, hcl⟩
    · rintro e s'' ⟨l, x8, rfl, hT, hr', hk', hl, hcl⟩
      have hk'l := hk'.len
      have hTl := cel_lt hT
      obtain ⟨d, s4, D, e4, r5, k5, hd0, hd, hDm, lD⟩ := drawL (C := ⟨callK (Wd r) k, (Wd r).repr, (Wd r).wf⟩) (i := 8) (c := .op2 .eq (.call 11 [(.var 0), (.con (.int 2))]) (.con (.int 0))) (env := [some (.loc s), some (.int most), some (.int cells), some (.loc bs), none, some (.loc (s1.length + 11)), some (.int i), some (.loc s'.length), x8]) (fun _ => True) (by simp) hr' (walks_lst hT (by simp; omega)) (by omega) (fun x s' b' hx hr hb' _ => by
        obtain ⟨v, s'', e, _, _, r2, k2⟩ := draw_ok (r := r) (K := k) (m := 2) (by omega) hr (by omega) (by omega) (by omega)
        exact ⟨decide (v = 0), s'', by simp [e], r2, k2, fun _ => trivial⟩)
      have hM4 := (hM.keep hk' (fun r hr => by simpa using hsA r hr)).keep k5 (fun r hr => by simpa using hsA r hr)
      have hD : ∀ x, x ∈ D → x ∈ l := fun x hx => (hDm x hx).1
      have hML : ∀ r, Live M.n r → A r < s'.length := fun r hr => hM.lt hr
      obtain ⟨⟨A', M'⟩, s5, g1, g2⟩ := put_ok (r := r) (K := k) (L := st.length) (by omega) hM4 ok (by omega) hc hc2 r5 (by omega) hsA hd (by omega) (fun r hr => by have := hML r hr; omega) (fun x hx => hcl.1 x (hD x hx)) (by omega) (fun o p ho hp => hcl.2.2 o (hcl.need hD ho) p (hcl.need hD hp)) (by have := k5.len; omega) (by omega)
      replace g2 : Grown st.length s4 s5 (s1.length + 11) s (b + cells + 2 + 100 * i + M.n + l.length + M.n + 6) A M cells A' M' := g2
      simp [hT, e4, g1]
      obtain ⟨ws, sz, D, C, e⟩ := g2.ext
      have hn' : M'.n = M.n + 1 := by rw [e]; rfl
      refine ⟨A', M', g2.at_, g2.ok, by omega, g2.src.mono (by omega), ?_, ?_⟩
      · refine (hk.trans (hk'.trans k5)).tail g2.keep fun x hx => ?_
        rcases List.mem_cons.mp hx with rfl | hx
        · exact .inl (by simp)
        · obtain ⟨r, hr, rfl⟩ := foot_live hx
          exact .inr (hA r hr)
      · intro r hr
        rw [hn'] at hr
        rcases g2.new r hr with ⟨h1, h2⟩ | h2
        · rw [h2]
          exact hA r h1
        · exact h2
  · rintro e s' ⟨A, M, x8, rfl, hM, ok, hn, hr, hk, hA⟩
    simp
    exact hQ _ _ ⟨hk, A, M, hM, ok, by omega, hA⟩
theorem world_ok {r : MV → Txt} {K s p b most : Nat} {ns : List Int} {st : Store} (hK : 5 ≤ K) (hs : Src st s b) (hb : b ≤ 100000) (hm : most ≤ 30) (hp : cel st p = some (.ro (ns.map .int))) (hn : ns.length ≤ 1000) (hps : p ≠ s) :
    ∃ (m : Nat) (st' : Store), callK (Wd r) K 22 [.loc p, .loc s, .int most] st = .ok (.loc m) st' ∧ Keep [s] st st' ∧ Src st' s (b + 2) ∧ ∃ A M cells, ModelAt st' m A M ∧ MdOk M cells ∧ 1 ≤ cells ∧ cells ≤ 20 ∧ M.n ≤ most ∧ ∀ r, Live M.n r → st.length ≤ A r := by
  obtain ⟨k, rfl⟩ : ∃ k, K = k + 1 := ⟨K - 1, by omega⟩
  refine OkQ.ex MV.loc fun Q hQ => ?_
  rw [callK_eq (g__law_world r) rfl]
  obtain ⟨v, s1, e1, v0, v1, r1, k1⟩ := draw_ok (r := r) (K := k) (m := 2) (by omega) hs (by omega) (by omega) (by omega)
  have hp1 := cel_keep k1 hp (by simpa using hps)
  obtain ⟨w, s2, e2, hw, r2, k2⟩ := source_ok (r := r) (K := k) (j := 1) (by omega) hp1 hn (by omega) (by omega)
  have r1' := r1.keep k2 (by simp)
  have hsl := hs.lt
  have K1 := k1.len
  have K2 := k2.len
  by_cases c : v = 0
  · obtain ⟨u, s3, e3, u0, u1, r3, k3⟩ := draw_ok (r := r) (K := k) (m := 4) (by omega) r1' (by omega) (by omega) (by omega)
    have r2' := r2.keep k3 (by simp; omega)
    obtain ⟨n, rfl⟩ := Int.eq_ofNat_of_zero_le u0
    obtain ⟨m, s4, e4, k4, A, M, hM, ok, hn', hA⟩ := model_ok (r := r) (K := k) (cells := 1 + n) (by omega) r2' (by omega) hm (by omega) (by omega)
    have e4' : callK (Wd r) k 16 [.loc w, .int most, .int (1 + (n : Int))] s3 = .ok (.loc m) s4 := by
      rw [← e4]
      simp
    have K3 := k3.len
    simp [d__law_world, e1, c, e2, e3, e4']
    exact hQ _ _ ⟨(k1.trans (k2.weak.trans k3)).tail k4 (fun x hx => by rw [List.mem_singleton.mp hx]; exact .inr (by omega)), r3.keep k4 (by simp; omega), A, M, 1 + n, hM, ok, by omega, by omega, hn', fun r hr => by have := hA r hr; omega⟩
  · have r1'' : Src (s2 ++ [.lst [.int 2, .int 5, .int 12, .int 20]]) s (b + 1) := r1'.app
    obtain ⟨u, s3, e3, u0, u1, r3, k3⟩ := draw_ok (r := r) (K := k) (m := 4) (by omega) r1'' (by omega) (by omega) (by omega)
    have r2' : Src s3 w 0 := (r2.app (t := [.lst [.int 2, .int 5, .int 12, .int 20]])).keep k3 (by simp; omega)
    have hl3 := cel_keep k3 (cel_new s2 [.lst [.int 2, .int 5, .int 12, .int 20]]) (by simp; omega)
    obtain ⟨n, rfl⟩ := Int.eq_ofNat_of_zero_le u0
    obtain ⟨cells, hcel⟩ : ∃ cells : Nat, cells = [2, 5, 12, 20].getD n 0 := ⟨_, rfl⟩
    have hix : [MV.int 2, .int 5, .int 12, .int 20][n]? = some (.int cells) := by
      rw [hcel]
      rcases n with _ | _ | _ | _ | n
      · rfl
      · rfl
      · rfl
      · rfl
      · omega
    have hcb : 1 ≤ cells ∧ cells ≤ 20 := by
      rw [hcel]
      rcases n with _ | _ | _ | _ | n
      · decide
      · decide
      · decide
      · decide
      · omega
    obtain ⟨m, s4, e4, k4, A, M, hM, ok, hn', hA⟩ := rich_ok (r := r) (K := k) (cells := cells) (by omega) r2' (by omega) hm hcb.1 (by omega)
    have K3 := k3.len
    rw [List.length_append] at K3
    simp [d__law_world, e1, c, e2, newL_ok, e3, hl3, hix, e4]
    exact hQ _ _ ⟨(k1.trans (k2.weak.trans (Keep.new.weak.trans k3))).tail k4 (fun x hx => by rw [List.mem_singleton.mp hx]; exact .inr (by omega)), r3.keep k4 (by simp; omega), A, M, cells, hM, ok, hcb.1, hcb.2, hn', fun r hr => by have := hA r hr; omega⟩
end Mini
namespace Mini
theorem newG_cases {G : Rb → Nat} {n d : Nat} {r : Rb} (h : LiveB (n + 1) r) : (LiveB n r ∧ newG G n d r = G r) ∨ (r = .v (n + 1) ∧ newG G n d r = d) := by
  by_cases e : r = .v (n + 1)
  · subst e
    exact .inr ⟨rfl, if_pos rfl⟩
  · refine .inl ⟨?_, if_neg e⟩
    cases r with
    | v i =>
      have h1 : i ≤ n + 1 := h
      have h2 : i ≠ n + 1 := fun z => e (by rw [z])
      show i ≤ n
      omega
    | _ => trivial
/-- the next patch of the model is made in the book -/
theorem step_ok {r : MV → Txt} {K b w i cells : Nat} {G : Rb → Nat} {S : BkS} {B : BkM} {M : Md} {st : Store} (hK : 4 ≤ K) (h : BookM st b G S B) (ok : MdOk M cells) (hn : M.n ≤ 900) (rel : BkRel S M i) (hi : i < M.n) (hw : cel st w = some (.lst (prs (M.W (i + 1))))) :
    ∃ st', callK (Wd r) K 1 [.loc b, .loc w, .tup ((M.D (i + 1)).map MV.int), .tup ((M.C (i + 1)).map MV.int), .int (M.S (i + 1))] st = .ok (.int ((i : Int) + 1)) st' ∧ Keep [G .nums, G .vals, G .szs, G .nds, G .brs, G .wrs] st st' ∧
      ∃ G' S' B', BookM st' b G' S' B' ∧ BkRel S' M (i + 1) ∧ S'.n = S.n + 1 ∧ ∀ r, LiveB (S.n + 1) r → (LiveB S.n r ∧ G' r = G r) ∨ st.length ≤ G' r := by
  have W := ok.W (i + 1) (by omega) hi
  have hc := rel.cells
  obtain ⟨d, s, e, hd, k, M', hM⟩ := make_patch_ok (r := r) (K := K) (rq := M.D (i + 1)) (cq := M.C (i + 1)) (size := M.S (i + 1)) hK h (by rw [rel.n]; omega) hw W.1 (by have := W.2.1; omega) (fun p hp => by
    rw [hc, ok.base]
    exact W.2.2.1 p hp) W.2.2.2 (fun x hx => by
    rw [rel.n]
    have := ok.D (i + 1) hi x hx
    omega) (fun x hx => by
    rw [rel.n]
    have := ok.C (i + 1) hi x hx
    omega) (ok.S (i + 1) hi) (fun j => rel_no ok rel hi j)
  rw [rel.n] at e
  refine ⟨s, e, k, _, _, M', hM, BkRel.add ok rel hi, rfl, fun r hr => ?_⟩
  rcases newG_cases (G := G) (d := d) hr with h | ⟨_, h⟩
  · exact .inl h
  · rw [h]
    exact .inr hd
theorem keep6 {G : Rb → Nat} {n L x : Nat} (hG : ∀ r, LiveB n r → L ≤ G r) (hx : x ∈ [G .nums, G .vals, G .szs, G .nds, G .brs, G .wrs]) : L ≤ x := by
  simp only [List.mem_cons, List.not_mem_nil, or_false] at hx
  rcases hx with rfl | rfl | rfl | rfl | rfl | rfl
  · exact hG .nums trivial
  · exact hG .vals trivial
  · exact hG .szs trivial
  · exact hG .nds trivial
  · exact hG .brs trivial
  · exact hG .wrs trivial
theorem book_ok {r : MV → Txt} {K m cells : Nat} {A : Rl → Nat} {M : Md} {st : Store} (hK : 5 ≤ K) (h : ModelAt st m A M) (ok : MdOk M cells) (hn : M.n ≤ 900) (hc : 1 ≤ cells) (hc2 : cells ≤ 100) :
    ∃ (b : Nat) (st' : Store), callK (Wd r) K 17 [.loc m] st = .ok (.loc b) st' ∧ Keep [] st st' ∧ st.length ≤ b ∧ ∃ G S B, BookM st' b G S B ∧ BkRel S M M.n ∧ ∀ r, LiveB S.n r → st.length ≤ G r := by
  obtain ⟨k, rfl⟩ : ∃ k, K = k + 1 := ⟨K - 1, by omega⟩
  refine OkQ.ex MV.loc fun Q hQ => ?_
  rw [callK_eq (g__law_book r) rfl]
  have hbl := ok.base
  have h1 : cel (st ++ [.lst (M.base.map .int)]) st.length = some (.lst (M.base.map .int)) := by simp
  obtain ⟨s2, B0, e0, k0, hB0⟩ := init_ok (r := r) (K := k) (by omega) h1 (fun z => by rw [z] at hbl; simp at hbl; omega) (by omega)
  have hbl2 : (M.base.map MV.int).length ≤ 16000000 := by rw [List.length_map]; omega
  have hbl3 : M.base.length ≤ 16000000 := by omega
  have e0' : callK (Wd r) k 0 [.loc (st.length + 1), .loc st.length] (st ++ [.lst (M.base.map .int), .ins 0 []]) = .ok .non s2 := by
    have := e0
    simpa using this
  have k2 : Keep [] st s2 := Keep.new.trans k0
  have h2 := h.ext k2
  have hr2 : ∀ s, mkR2 (.int 1) (.int ((M.n : Int) + 1)) s = .ok (.rng 1 1 M.n) s := fun s => by
    rw [mk_r2 (by omega) (by omega) (by omega) (by omega)]
    congr 2
    omega
  have hlen : (st ++ [Cell.lst (M.base.map .int)]).length = st.length + 1 := by simp
  rw [hlen] at hB0
  have hG0 : ∀ r, LiveB (S0 M.base).n r → st.length ≤ G0 (st.length + 1) r := fun r _ => by cases r <;> simp only [G0] <;> omega
  simp [d__law_book, h.t, h.base, newL_ok, hbl3, e0', h2.t, h2.wl, hr2]
  simp only [okQ_bind]
  refine okQ_rng (fun i e s' => ∃ G S B, e = [some (.loc m), some (.loc (st.length + 1)), none] ∧ BookM s' (st.length + 1) G S B ∧ BkRel S M i ∧ Keep [] st s' ∧ ∀ r, LiveB S.n r → st.length ≤ G r) ⟨_, _, _, rfl, hB0, BkRel.zero M, k2, hG0⟩ ?_ ?_
  · rintro i e s' hi ⟨G, S, B, rfl, hB, rel, hk, hG⟩
    have h3 := h.ext hk
    have ec : (1 : Int) + (i : Int) = ((i + 1 : Nat) : Int) := by omega
    have fW : ((List.range (M.n + 1)).map fun i => MV.loc (A (.w i)))[i + 1]? = some (.loc (A (.w (i + 1)))) := getF (by omega)
    have fS : ((List.range (M.n + 1)).map fun i => MV.int (M.S i))[i + 1]? = some (.int (M.S (i + 1))) := getF (by omega)
    have fD : ((List.range (M.n + 1)).map fun i => MV.loc (A (.d i)))[i + 1]? = some (.loc (A (.d (i + 1)))) := getF (by omega)
    have fC : ((List.range (M.n + 1)).map fun i => MV.loc (A (.c i)))[i + 1]? = some (.loc (A (.c (i + 1)))) := getF (by omega)
    have lW : (prs (M.W (i + 1))).length ≤ 16000000 := by
      have := ok.lW (i := i + 1) hi
      simp [prs]
      omega
    have h4 := h3.ext (Keep.new (t := [.lst (prs (M.W (i + 1)))]))
    have lD : ((M.D (i + 1)).map MV.int).length ≤ 1000 := by have := ok.lD (i + 1) hi; rw [List.length_map]; omega
    have lC : ((M.C (i + 1)).map MV.int).length ≤ 1000 := by have := ok.lC (i + 1) hi; rw [List.length_map]; omega
    have hB4 := hB.ext (Keep.new (t := [.lst (prs (M.W (i + 1)))]))
    obtain ⟨s3, e3, k3, G', S', B', hB3, rel3, hn3, hG3⟩ := step_ok (r := r) (K := k) (w := s'.length) (by omega) hB4 ok hn rel hi (by simp)
    have e3' : callK (Wd r) k 1 [.loc (st.length + 1), .loc s'.length, .tup ((M.D (i + 1)).map MV.int), .tup ((M.C (i + 1)).map MV.int), .int (M.S (i + 1))] (s' ++ [.lst (prs (M.W (i + 1)))]) = .ok (.int ((i : Int) + 1)) s3 := e3
    simp only [Int.mul_one, ec]
    have aW : atI ((List.range (M.n + 1)).map fun i => MV.loc (A (.w i))) ((i : Int) + 1) = some (.loc (A (.w (i + 1)))) := by
      have := atI_nat ((List.range (M.n + 1)).map fun i => MV.loc (A (.w i))) (i + 1)
      rw [fW] at this
      simpa using this
    have aS : atI ((List.range (M.n + 1)).map fun i => MV.int (M.S i)) ((i : Int) + 1) = some (.int (M.S (i + 1))) := by
      have := atI_nat ((List.range (M.n + 1)).map fun i => MV.int (M.S i)) (i + 1)
      rw [fS] at this
      simpa using this
    have aD : atI ((List.range (M.n + 1)).map fun i => MV.loc (A (.d i))) ((i : Int) + 1) = some (.loc (A (.d (i + 1)))) := by
      have := atI_nat ((List.range (M.n + 1)).map fun i => MV.loc (A (.d i))) (i + 1)
      rw [fD] at this
      simpa using this
    have aC : atI ((List.range (M.n + 1)).map fun i => MV.loc (A (.c i))) ((i : Int) + 1) = some (.loc (A (.c (i + 1)))) := by
      have := atI_nat ((List.range (M.n + 1)).map fun i => MV.loc (A (.c i))) (i + 1)
      rw [fC] at this
      simpa using this
    simp [hB.t, h3.t, h3.wl, aW, h3.wi (show i + 1 ≤ M.n from hi), newL_ok, lW, h4.t, h4.dl, aD, h4.di (show i + 1 ≤ M.n from hi), tpV_ok lD, h4.cl, aC, h4.ci (show i + 1 ≤ M.n from hi), tpV_ok lC, h4.sl, aS, e3']
    refine ⟨G', S', ⟨B', hB3⟩, rel3, ?_, fun r hr => ?_⟩
    · exact (hk.trans Keep.new).tail k3 fun x hx => .inr (keep6 hG hx)
    · rw [hn3] at hr
      rcases hG3 r hr with ⟨a, c⟩ | c
      · rw [c]
        exact hG r a
      · have := hk.len
        simp at c
        omega
  · rintro e s' ⟨G, S, B, rfl, hB, rel, hk, hG⟩
    simp
    exact hQ _ _ ⟨hk, by omega, G, S, B, hB, rel, hG⟩
end Mini
namespace Mini
def tupI (t : List Int) : MV := .tup (t.map .int)
/-- a list of tuples of numbers stands at a place -/
def Tups (st : Store) (a : Nat) (ts : List (List Int)) : Prop := cel st a = some (.lst (ts.map tupI)) ∧ ts.length ≤ 10000 ∧ ∀ t, t ∈ ts → t.length ≤ 200
theorem Tups.keep {st st' : Store} {a : Nat} {ts : List (List Int)} {w : List Nat} (h : Tups st a ts) (k : Keep w st st') (ha : a ∉ w) : Tups st' a ts := ⟨cel_keep k h.1 ha, h.2⟩
open Classical in
theorem agrees_ok {r : MV → Txt} {K b m a cells : Nat} {G : Rb → Nat} {S : BkS} {B : BkM} {A : Rl → Nat} {M : Md} {ts : List (List Int)} {st : Store} (hK : 4 ≤ K) (hB : BookM st b G S B) (h : ModelAt st m A M) (ok : MdOk M cells) (hn : M.n ≤ 900) (rel : BkRel S M M.n) (ht : Tups st a ts) :
    ∃ st', callK (Wd r) K 26 [.loc b, .loc m, .loc a] st = .ok (.bl true) st' ∧ Keep [] st st' := by
  obtain ⟨k, rfl⟩ : ∃ k, K = k + 1 := ⟨K - 1, by omega⟩
  suffices ∃ (_ : Unit) (s : Store), callK (Wd r) (k + 1) 26 [.loc b, .loc m, .loc a] st = .ok (.bl true) s ∧ Keep [] st s by
    obtain ⟨_, s, h1, h2⟩ := this
    exact ⟨s, h1, h2⟩
  refine OkQ.ex (fun _ : Unit => MV.bl true) fun Q hQ => ?_
  rw [callK_eq (g__law_agrees r) rfl]
  simp [d__law_agrees, ht.1]
  simp only [okQ_bind]
  have hl := ht.2.1
  refine okQ_lcF (l := ts.map tupI) (w := []) (fun _ => false) id (walks_lst ht.1 (by simp)) (by rw [List.length_map]; omega) ?_ ?_ (by simp)
  · intro x s hx ks
    obtain ⟨t, ht2, rfl⟩ := List.mem_map.mp hx
    have htl := ht.2.2 t ht2
    have hBs := hB.ext ks
    have hs := h.ext ks
    have e1 := contains_ok (r := r) (K := k) (l := t) (by omega) hBs (by rw [rel.n]; omega)
    obtain ⟨s', e2, k2⟩ := is_version_ok (r := r) (K := k) (t := t) (by omega) hs (fun i hi => by have := ok.lN i hi; omega) (fun i hi => by have := ok.lB i hi; omega) (by omega)
    have e3 : decide (Hold S t) = decide (VerM M t) := by
      rw [Bool.eq_iff_iff, decide_eq_true_eq, decide_eq_true_eq]
      exact hold_ver ok rel t
    have e1' : callK (Wd r) k 7 [.loc b, tupI t] s = .ok (.bl (decide (VerM M t))) s := by
      rw [← e3]
      exact e1
    have e2' : callK (Wd r) k 23 [.loc m, tupI t] s = .ok (.bl (decide (VerM M t))) s' := e2
    generalize decide (VerM M t) = v at e1' e2'
    simp only [lcTurn_nm, t_s1]
    simp [hBs.t, e1', e2']
    exact k2
  · intro s ks hs
    have e0 : ∀ l : List MV, l.filter (fun _ => false) = [] := fun l => by simp
    rw [e0] at hs
    simp [hs]
    exact hQ () _ ks
def snocT (n : Int) : MV → MV
  | .tup l => .tup (l ++ [.int n])
  | _ => .non
theorem snocT_map (n : Int) (ts : List (List Int)) : (ts.map tupI).map (snocT n) = (ts.map fun t => t ++ [n]).map tupI := by
  rw [List.map_map, List.map_map]
  apply List.map_congr_left
  intro t _
  simp [tupI, snocT]
theorem subsets_ok {r : MV → Txt} {K n : Nat} {st : Store} (hK : 1 ≤ K) (hn : n ≤ 7) : ∃ (a : Nat) (st' : Store), callK (Wd r) K 25 [.int n] st = .ok (.loc a) st' ∧ Keep [] st st' ∧ st.length ≤ a ∧ ∃ ts, Tups st' a ts ∧ ts.length ≤ 128 ∧ ∀ t, t ∈ ts → t.length ≤ 100 := by
  obtain ⟨k, rfl⟩ : ∃ k, K = k + 1 := ⟨K - 1, by omega⟩
  refine OkQ.ex MV.loc fun Q hQ => ?_
  rw [callK_eq (g__law_subsets r) rfl]
  have hr2 : ∀ s, mkR2 (.int 1) (.int ((n : Int) + 1)) s = .ok (.rng 1 1 n) s := fun s => by
    rw [mk_r2 (by omega) (by omega) (by omega) (by omega)]
    congr 2
    omega
  simp [d__law_subsets, newL_ok, hr2]
  simp only [okQ_bind]
  refine okQ_rng (fun i e s => ∃ T ts, e = [some (.int n), some (.loc T), none, none] ∧ Keep [] st s ∧ st.length ≤ T ∧ cel s T = some (.lst (ts.map tupI)) ∧ ts.length ≤ 2 ^ i ∧ ∀ t, t ∈ ts → t.length ≤ i) ⟨st.length, [[]], rfl, Keep.new, Nat.le_refl _, by simp [tupI], by simp, by simp⟩ ?_ ?_
  · rintro i e s hi ⟨T, ts, rfl, hk, hT0, hT, hl, hlt⟩
    have hp : 2 ^ i ≤ 64 := by
      have : 2 ^ i ≤ 2 ^ 6 := Nat.pow_le_pow_right (by decide) (by omega)
      simpa using this
    have ec : (1 : Int) + (i : Int) * 1 = (i : Int) + 1 := by omega
    rw [ec]
    have ev : evE ⟨callK (Wd r) k, (Wd r).repr, (Wd r).wf⟩ (.lcS (.nm 3) (.var 1) [] (.op2 .add (.var 3) (.tup [.var 2]))) [some (.int n), some (.loc T), some (.int ((i : Int) + 1)), none] s = .ok (.loc s.length) (s ++ [.lst ((ts.map tupI).map (snocT ((i : Int) + 1)))]) :=
      ev_map _ (by simp) hT (by rw [List.length_map]; omega) (fun x acc hx => by
        obtain ⟨t, ht, rfl⟩ := List.mem_map.mp hx
        have := hlt t ht
        have h1 : t.length + 1 ≤ 1000 := by omega
        simp [tupI, snocT, h1])
    have hT' : cel (s ++ [.lst ((ts.map tupI).map (snocT ((i : Int) + 1)))]) T = some (.lst (ts.map tupI)) := cel_app_old hT
    have hlen : (ts.map tupI ++ (ts.map tupI).map (snocT ((i : Int) + 1))).length ≤ 16000000 := by
      simp only [List.length_append, List.length_map]
      omega
    have e6 : ts.map tupI ++ (ts.map tupI).map (snocT ((i : Int) + 1)) = (ts ++ ts.map fun t => t ++ [(i : Int) + 1]).map tupI := by rw [snocT_map, List.map_append]
    simp only [lpTurn_nm]
    simp [-r_lcS, ev, hT', -List.map_map]
    rw [newL_ok hlen, e6]
    simp
    refine ⟨hk.trans Keep.new, by have := hk.len; omega, ts ++ ts.map fun t => t ++ [(i : Int) + 1], ?_, ?_, ?_⟩
    · simp
    · rw [Nat.pow_succ]
      simp
      omega
    · intro t ht
      rcases List.mem_append.mp ht with ht | ht
      · have := hlt t ht
        omega
      · obtain ⟨u, hu, rfl⟩ := List.mem_map.mp ht
        have := hlt u hu
        simp
        omega
  · rintro e s ⟨T, ts, rfl, hk, hT0, hT, hl, hlt⟩
    have hp : 2 ^ n ≤ 128 := by
      have : 2 ^ n ≤ 2 ^ 7 := Nat.pow_le_pow_right (by decide) (by omega)
      simpa using this
    simp
    exact hQ _ _ ⟨hk, hT0, ts, ⟨hT, by omega, fun t ht => by have := hlt t ht; omega⟩, by omega, fun t ht => by have := hlt t ht; omega⟩
def cut' (l : List Int) (a b : Nat) : List Int := (l.drop a).take (b - a)
theorem cut'_len (l : List Int) (a b : Nat) : (cut' l a b).length ≤ l.length := by
  unfold cut'
  rw [List.length_take, List.length_drop]
  omega
theorem erase_map (f : Int → MV) : ∀ (l : List Int) (n : Nat), (l.map f).eraseIdx n = (l.eraseIdx n).map f
  | [], n => by simp
  | a :: r, 0 => rfl
  | a :: r, n + 1 => by
    show f a :: (r.map f).eraseIdx n = f a :: (r.eraseIdx n).map f
    rw [erase_map f r n]
theorem sl_hi {T : Nat} {l : List MV} {s : Store} {v : Int} (h : cel s T = some (.lst l)) (hv : 0 ≤ v) : slice false true (.loc T) .non (.int v) s = .ok (.loc s.length) (s ++ [.lst (cut l 0 (min v.toNat l.length))]) := by
  have e : ¬v < 0 := by omega
  simp [slice, bOk, h, sIx, e]
theorem sl_lo {T : Nat} {l : List MV} {s : Store} {v : Int} (h : cel s T = some (.lst l)) (hv : 0 ≤ v) : slice true false (.loc T) (.int v) .non s = .ok (.loc s.length) (s ++ [.lst (cut l (min v.toNat l.length) l.length)]) := by
  have e : ¬v < 0 := by omega
  simp [slice, bOk, h, sIx, e]
theorem tup_len {l : List Int} (h : l.length ≤ 200) (s : Store) : tpV (some (l.map MV.int)) s = .ok (.tup (l.map .int)) s := tpV_ok (by rw [List.length_map]; omega)
theorem cut_map (l : List Int) (a b : Nat) : cut (l.map MV.int) a b = (cut' l a b).map .int := by
  unfold cut cut'
  rw [← List.map_drop, ← List.map_take]
theorem odd_ok {r : MV → Txt} {K s b m cells : Nat} {A : Rl → Nat} {M : Md} {st : Store} (hK : 3 ≤ K) (h : ModelAt st m A M) (ok : MdOk M cells) (hn : M.n ≤ 30) (hs : Src st s b) (hb : b ≤ 100000) (hsA : ∀ r, Live M.n r → A r ≠ s) :
    ∃ (l : List Int) (st' : Store), callK (Wd r) K 24 [.loc s, .loc m] st = .ok (tupI l) st' ∧ Keep [s] st st' ∧ l.length ≤ 100 := by
  obtain ⟨k, rfl⟩ : ∃ k, K = k + 1 := ⟨K - 1, by omega⟩
  refine OkQ.ex tupI fun Q hQ => ?_
  obtain ⟨L, s1, e1, r1, k1, hl, _, _⟩ := version_ok (r := r) (K := k) (by omega) h ok (by omega) hs (by omega) hsA
  have hsl := hs.lt
  have K1 := k1.len
  have hLl : (L.map MV.int).length ≤ 16000000 := by rw [List.length_map]; omega
  have hLl2 : L.length ≤ 16000000 := by omega
  have r1' : Src (s1 ++ [.lst (L.map .int)]) s (b + M.n) := r1.app
  obtain ⟨kd, s2, e2, kd0, kd1, r2, k2⟩ := draw_ok (r := r) (K := k) (m := 9) (by omega) r1' (by omega) (by omega) (by omega)
  obtain ⟨f0, s3, e3, f00, f01, r3, k3⟩ := draw_ok (r := r) (K := k) (m := 30) (by omega) r2 (by omega) (by omega) (by omega)
  have hT3 : cel s3 s1.length = some (.lst (L.map .int)) := cel_keep k3 (cel_keep k2 (by simp) (by simp; omega)) (by simp; omega)
  have k03 : Keep [s] st s3 := k1.trans (Keep.new.weak.trans (k2.trans k3))
  have K3 := k03.len
  have lT := cel_lt hT3
  have hmul : ∀ c s, op2 .mul (.int 1000000000000000000) (.int (if c = true then 1 else 0)) s = .ok (.int (1000000000000000000 * (if c = true then 1 else 0))) s := fun c s => by
    cases c
    · exact mulS 80 40 (by decide) (by decide)
    · exact mulS 80 40 (by decide) (by decide)
  obtain ⟨far, hfar⟩ : ∃ far : Int, far = (M.n : Int) + 2 + f0 + 1000000000000000000 * (if decide (((M.n : Int) + 2 + f0) % 8 = 7) = true then 1 else 0) := ⟨_, rfl⟩
  rw [callK_eq (g__law_odd r) rfl, evSs_split _ 5]
  have hh : evSs ⟨callK (Wd r) k, (Wd r).repr, (Wd r).wf⟩ (d__law_odd.body.take 5) ([MV.loc s, .loc m].map some ++ List.replicate (d__law_odd.ns - [MV.loc s, .loc m].length) none) st = .ok (.next [some (.loc s), some (.loc m), some (.int M.n), some (.loc s1.length), some (.int kd), some (.int far), none, none, none]) s3 := by
    rw [hfar]
    have hmul2 : ∀ s, op2 .mul (.int 1000000000000000000) (.int (if ((M.n : Int) + 2 + f0) % 8 = 7 then 1 else 0)) s = .ok (.int (1000000000000000000 * (if ((M.n : Int) + 2 + f0) % 8 = 7 then 1 else 0))) s := fun s => by
      have := hmul (decide (((M.n : Int) + 2 + f0) % 8 = 7)) s
      simpa using this
    simp [d__law_odd, h.t, h.wl, e1, newL_ok, hLl2, e2, e3, hmul2]
  rw [hh, Out.bind_ok, q_ssN]
  clear hh hfar
  have fin : ∀ (s' : Store) (L' : List Int), Keep [s] st s' → L'.length ≤ 100 → Q (.tup (L'.map .int)) s' := fun s' L' hk hl => hQ L' s' ⟨hk, hl⟩
  have kT : ∀ {s' : Store} {c : Cell}, Keep [s] st s' → Keep [s] st (s'.set s1.length c) := fun hk => hk.setNew K1
  have hTn : s1.length ∉ [s] := by simp; omega
  have hcases : kd = 0 ∨ kd = 1 ∨ kd = 2 ∨ kd = 3 ∨ kd = 4 ∨ kd = 5 ∨ kd = 6 ∨ kd = 7 ∨ kd = 8 := by omega
  have hplain : OkQ Q (((evSs ⟨callK (Wd r) k, (Wd r).repr, (Wd r).wf⟩ [.ret (.prim .tuple [(.var 3)])] [some (.loc s), some (.loc m), some (.int M.n), some (.loc s1.length), some (.int kd), some (.int far), none, none, none] s3).bind endC)) := by
    simp [hT3, tup_len (show L.length ≤ 200 by omega)]
    exact fin s3 L k03 (by omega)
  rcases hcases with rfl | rfl | rfl | rfl | rfl | rfl | rfl | rfl | rfl
  · simp [d__law_odd, hT3, tup_len (show L.length ≤ 200 by omega)]
    exact fin s3 L k03 (by omega)
  · by_cases c : 0 < L.length
    · obtain ⟨v, s4, e4, v0, v1, r4, k4⟩ := draw_ok (r := r) (K := k) (m := (L.length : Int)) (by omega) r3 (by omega) (by omega) (by omega)
      have hT4 := cel_keep k4 hT3 hTn
      obtain ⟨n, rfl⟩ := Int.eq_ofNat_of_zero_le v0
      have hv : (L.map MV.int)[n]? = some (.int (L[n]'(by omega))) := by simp
      have ep := m_pop (i := (n : Int)) hT4 (by omega) (by simp; omega) (by simp; omega) hv
      have eE : (L.map MV.int).eraseIdx n = (L.eraseIdx n).map .int := erase_map ..
      have hT5 : cel (s4.set s1.length (.lst ((L.map MV.int).eraseIdx n))) s1.length = some (.lst ((L.eraseIdx n).map .int)) := by rw [cel_set _ _ _ (cel_lt hT4), eE]
      have hE : (L.eraseIdx n).length ≤ 200 := by have := List.length_eraseIdx_le L n; omega
      simp only [Int.toNat_natCast] at ep
      simp [d__law_odd, hT3, c, e4, ep, hT5, tup_len hE]
      exact fin _ (L.eraseIdx n) (kT (k03.trans k4)) (by have := List.length_eraseIdx_le L n; omega)
    · simp [d__law_odd, hT3, c, tup_len (show L.length ≤ 200 by omega)]
      exact fin s3 L k03 (by omega)
  · obtain ⟨v, s4, e4, v0, v1, r4, k4⟩ := draw_ok (r := r) (K := k) (m := (M.n : Int) + 1) (by omega) r3 (by omega) (by omega) (by omega)
    have hT4 := cel_keep k4 hT3 hTn
    have hT5 : cel (s4 ++ [.lst [.int (1 + v)]]) s1.length = some (.lst (L.map .int)) := cel_app_old hT4
    obtain ⟨L2, hL2⟩ : ∃ L2, L2 = L ++ [1 + v] := ⟨_, rfl⟩
    have l2 : L2.length ≤ 31 := by rw [hL2]; simp; omega
    have eA : L.map MV.int ++ [MV.int (1 + v)] = L2.map MV.int := by rw [hL2]; simp
    have lA : (L2.map MV.int).length ≤ 16000000 := by rw [List.length_map]; omega
    have hS : cel (s4 ++ [.lst [MV.int (1 + v)], .lst (L2.map MV.int)]) (s4.length + 1) = some (.lst (L2.map .int)) := by simp
    have es := p_sortedL (C := ⟨callK (Wd r) k, (Wd r).repr, (Wd r).wf⟩) hS (by omega)
    have lS : ((sortI L2).map MV.int).length ≤ 16000000 := by rw [List.length_map, sortI_len]; omega
    rw [newL_ok lS] at es
    have lS2 : (sortI L2).length ≤ 100 := by rw [sortI_len]; omega
    simp [d__law_odd, hT3, e4, newL_ok, sizeMax, hT5]
    rw [eA, newL_ok lA]
    simp [es, tup_len (show (sortI L2).length ≤ 200 by omega)]
    exact fin _ (sortI L2) ((k03.trans k4).trans Keep.new.weak) lS2
  · by_cases c : (1 : Int) < (L.length : Int)
    · obtain ⟨v, s4, e4, v0, v1, r4, k4⟩ := draw_ok (r := r) (K := k) (m := (L.length : Int) - 1) (by omega) r3 (by omega) (by omega) (by omega)
      have hT4 := cel_keep k4 hT3 hTn
      obtain ⟨n, rfl⟩ := Int.eq_ofNat_of_zero_le v0
      have hca : ∀ t, cel (s4 ++ t) s1.length = some (.lst (L.map .int)) := fun t => cel_app_old hT4
      obtain ⟨c1, hc1⟩ : ∃ c1, c1 = cut' L 0 (min n L.length) := ⟨_, rfl⟩
      obtain ⟨c2, hc2⟩ : ∃ c2, c2 = cut' L (min (n + 2) L.length) L.length := ⟨_, rfl⟩
      have lc1 : c1.length ≤ L.length := by rw [hc1]; exact cut'_len _ _ _
      have lc2 : c2.length ≤ L.length := by rw [hc2]; exact cut'_len _ _ _
      have sA : slice false true (.loc s1.length) .non (.int (1 + (n : Int) - 1)) s4 = .ok (.loc s4.length) (s4 ++ [.lst (c1.map .int)]) := by
        rw [sl_hi hT4 (by omega), cut_map, List.length_map, show (1 + (n : Int) - 1).toNat = n by omega, ← hc1]
      have sB : ∀ t, slice true false (.loc s1.length) (.int (1 + (n : Int) + 1)) .non (s4 ++ t) = .ok (.loc (s4 ++ t).length) ((s4 ++ t) ++ [.lst (c2.map .int)]) := fun t => by
        rw [sl_lo (hca t) (by omega), cut_map, List.length_map, show (1 + (n : Int) + 1).toNat = n + 2 by omega, ← hc2]
      obtain ⟨y1, aI1⟩ : ∃ y1, atI (L.map MV.int) (1 + (n : Int)) = some (.int y1) := ⟨L[n + 1]'(by omega), by
        rw [atI_pos (by omega), show (1 + (n : Int)).toNat = n + 1 by omega]
        simp⟩
      obtain ⟨y2, aI2⟩ : ∃ y2, atI (L.map MV.int) (1 + (n : Int) - 1) = some (.int y2) := ⟨L[n]'(by omega), by
        rw [atI_pos (by omega), show (1 + (n : Int) - 1).toNat = n by omega]
        simp⟩
      have g1 : c1.length + 2 ≤ 16000000 := by omega
      have g2 : c1.length + (c2.length + 1 + 1) ≤ 16000000 := by omega
      have hlen : (c1.map MV.int ++ MV.int y1 :: MV.int y2 :: c2.map MV.int).length ≤ 1000 := by simp; omega
      simp [d__law_odd, hT3, c, e4, sA, hca, aI1, aI2, newL_ok, g1, g2, sB]
      rw [tpV_ok hlen]
      simp
      refine cast ?_ (fin (s4 ++ [.lst (c1.map MV.int), .lst [.int y1, .int y2], .lst (c1.map MV.int ++ [.int y1, .int y2]), .lst (c2.map MV.int), .lst (c1.map MV.int ++ MV.int y1 :: MV.int y2 :: c2.map MV.int)]) (c1 ++ y1 :: y2 :: c2) ((k03.trans k4).trans Keep.new.weak) (by simp; omega))
      simp
    · simp [d__law_odd, hT3, c, tup_len (show L.length ≤ 200 by omega)]
      exact fin s3 L k03 (by omega)
  · by_cases c : 0 < L.length
    · obtain ⟨v, s4, e4, v0, v1, r4, k4⟩ := draw_ok (r := r) (K := k) (m := (L.length : Int)) (by omega) r3 (by omega) (by omega) (by omega)
      obtain ⟨u, s5, e5, u0, u1, r5, k5⟩ := draw_ok (r := r) (K := k) (m := (L.length : Int) + 1) (by omega) r4 (by omega) (by omega) (by omega)
      have hT4 := cel_keep k4 hT3 hTn
      have hT5 := cel_keep k5 hT4 hTn
      obtain ⟨n, rfl⟩ := Int.eq_ofNat_of_zero_le v0
      have hv : (L.map MV.int)[n]? = some (.int (L[n]'(by omega))) := by simp
      have ei := m_insert (i := u) (y := .int (L[n]'(by omega))) hT5 u0 (by simp; omega) (by simp; omega)
      have eI : (L.map MV.int).take u.toNat ++ MV.int (L[n]'(by omega)) :: (L.map MV.int).drop u.toNat = (L.take u.toNat ++ (L[n]'(by omega)) :: L.drop u.toNat).map .int := by simp
      have lI : (L.take u.toNat ++ (L[n]'(by omega)) :: L.drop u.toNat).length ≤ 100 := by simp; omega
      rw [eI] at ei
      have hT6 : cel (s5.set s1.length (.lst ((L.take u.toNat ++ (L[n]'(by omega)) :: L.drop u.toNat).map .int))) s1.length = some (.lst ((L.take u.toNat ++ (L[n]'(by omega)) :: L.drop u.toNat).map .int)) := cel_set _ _ _ (cel_lt hT5)
      generalize (L.take u.toNat ++ (L[n]'(by omega)) :: L.drop u.toNat) = L' at ei lI hT6
      simp [d__law_odd, hT3, c, e4, hT4, e5, hT5, hv, ei, hT6, tup_len (show L'.length ≤ 200 by omega)]
      exact fin _ L' (kT (k03.trans (k4.trans k5))) lI
    · simp [d__law_odd, hT3, c, tup_len (show L.length ≤ 200 by omega)]
      exact fin s3 L k03 (by omega)
  · obtain ⟨u, s4, e4, u0, u1, r4, k4⟩ := draw_ok (r := r) (K := k) (m := (L.length : Int) + 1) (by omega) r3 (by omega) (by omega) (by omega)
    have r4' : Src (s4 ++ [.lst [.int 0, .int (-1), .int ((M.n : Int) + 1), .int far, .int (-far)]]) s (b + M.n + 1 + 1 + 1) := r4.app
    obtain ⟨v, s5, e5, v0, v1, r5, k5⟩ := draw_ok (r := r) (K := k) (m := 5) (by omega) r4' (by omega) (by omega) (by omega)
    have hT4 := cel_keep k4 hT3 hTn
    have hT5 : cel s5 s1.length = some (.lst (L.map .int)) := cel_keep k5 (cel_app_old hT4) hTn
    have K4 := k4.len
    have hl5 := cel_keep k5 (cel_new s4 [.lst [.int 0, .int (-1), .int ((M.n : Int) + 1), .int far, .int (-far)]]) (by simp; omega)
    obtain ⟨n, rfl⟩ := Int.eq_ofNat_of_zero_le v0
    obtain ⟨y, hy⟩ : ∃ y, [MV.int 0, .int (-1), .int ((M.n : Int) + 1), .int far, .int (-far)][n]? = some (.int y) := by
      rcases n with _ | _ | _ | _ | _ | n
      · exact ⟨_, rfl⟩
      · exact ⟨_, rfl⟩
      · exact ⟨_, rfl⟩
      · exact ⟨_, rfl⟩
      · exact ⟨_, rfl⟩
      · omega
    have ei := m_insert (i := u) (y := .int y) hT5 u0 (by simp; omega) (by simp; omega)
    have eI : (L.map MV.int).take u.toNat ++ MV.int y :: (L.map MV.int).drop u.toNat = (L.take u.toNat ++ y :: L.drop u.toNat).map .int := by simp
    have lI : (L.take u.toNat ++ y :: L.drop u.toNat).length ≤ 100 := by simp; omega
    rw [eI] at ei
    have hT6 : cel (s5.set s1.length (.lst ((L.take u.toNat ++ y :: L.drop u.toNat).map .int))) s1.length = some (.lst ((L.take u.toNat ++ y :: L.drop u.toNat).map .int)) := cel_set _ _ _ (cel_lt hT5)
    generalize (L.take u.toNat ++ y :: L.drop u.toNat) = L' at ei lI hT6
    simp [d__law_odd, hT3, e4, newL_ok, sizeMax, e5, hl5, hy, hT4, hT5, ei, hT6, tup_len (show L'.length ≤ 200 by omega)]
    exact fin _ L' (kT (k03.trans (k4.trans (Keep.new.weak.trans k5)))) lI
  · have hr : cel (s3 ++ [.lst (L.map MV.int).reverse]) s3.length = some (.lst (L.reverse.map .int)) := by simp
    have er : (L.map MV.int).reverse = L.reverse.map .int := by simp
    simp [d__law_odd, hT3, tpV, show L.length ≤ 1000 by omega]
    have := fin (s3 ++ [.lst (L.map MV.int).reverse]) L.reverse (k03.trans Keep.new.weak) (by simp; omega)
    simpa using this
  · obtain ⟨u, s4, e4, u0, u1, r4, k4⟩ := draw_ok (r := r) (K := k) (m := 5) (by omega) r3 (by omega) (by omega) (by omega)
    have hr1 : ∀ s, mkR1 (.int u) s = .ok (.rng 0 1 u.toNat) s := fun s => mk_r1 (by omega) (by omega)
    have K4 := k4.len
    simp [d__law_odd, hT3, e4, hr1]
    simp only [okQ_bind]
    refine okQ_lcRng (by unfold sizeMax; omega) (fun i s' => Src s' s (b + M.n + 1 + 1 + 1 + i) ∧ Keep [s] st s') (fun y => ∃ z, y = .int z ∧ True) ⟨r4.app, (k03.trans k4).trans Keep.new.weak⟩ (fun i s' c hI => ⟨hI.1.set (by omega), hI.2.setNew (by omega)⟩) (fun i s' hi hI => ?_) (fun acc s' hc hl hR hI => ?_)
    · obtain ⟨v, s'', e, _, _, r2, k2⟩ := draw_ok (r := r) (K := k) (m := (M.n : Int) + 3) (by omega) hI.1 (by omega) (by omega) (by omega)
      simp [e]
      exact ⟨fun c hc => cel_keep k2 hc (by simp; omega), r2, hI.2.trans k2⟩
    · obtain ⟨L', rfl, _⟩ := ints_of hR
      rw [List.length_map] at hl
      simp [hc, tup_len (show L'.length ≤ 200 by omega)]
      exact fin s' L' hI.2 (by omega)
  · have hr2 : ∀ s, mkR2 (.int 1) (.int ((M.n : Int) + 1)) s = .ok (.rng 1 1 M.n) s := fun s => by
      rw [mk_r2 (by omega) (by omega) (by omega) (by omega)]
      congr 2
      omega
    obtain ⟨d, s4, D, e4, r4, k4, hd0, hd, hDm, lD⟩ := drawL (C := ⟨callK (Wd r) k, (Wd r).repr, (Wd r).wf⟩) (i := 8) (c := .op2 .eq (.call 11 [(.var 0), (.con (.int 2))]) (.con (.int 0))) (env := [some (.loc s), some (.loc m), some (.int M.n), some (.loc s1.length), some (.int 8), some (.int far), none, none, none]) (fun _ => True) (by simp) r3 (walks_rng1 (lo := 1) (n := M.n)) (by rw [rgI_len]; omega) (fun x s' b' hx hr hb' _ => by
      rw [rgI_len] at hb'
      obtain ⟨v, s'', e, _, _, r2, k2⟩ := draw_ok (r := r) (K := k) (m := 2) (by omega) hr (by omega) (by omega) (by omega)
      exact ⟨decide (v = 0), s'', by simp [e], r2, k2, fun _ => trivial⟩)
    rw [rgI_len] at lD
    simp [d__law_odd, hT3, hr2, e4, hd, tup_len (show D.length ≤ 200 by omega)]
    exact fin s4 D (k03.trans k4) (by omega)
theorem tups_of {acc : List MV} {n : Nat} (h : ∀ y, y ∈ acc → ∃ l : List Int, y = tupI l ∧ l.length ≤ n) : ∃ ts : List (List Int), acc = ts.map tupI ∧ ∀ t, t ∈ ts → t.length ≤ n := by
  induction acc with
  | nil => exact ⟨[], rfl, by simp⟩
  | cons y r ih =>
    obtain ⟨ts, e, g⟩ := ih fun z hz => h z (List.mem_cons_of_mem _ hz)
    obtain ⟨l, hl, hn⟩ := h y List.mem_cons_self
    refine ⟨l :: ts, by rw [hl, e]; rfl, fun t ht => ?_⟩
    rcases List.mem_cons.mp ht with rfl | ht
    · exact hn
    · exact g t ht
theorem law_run {r : MV → Txt} (ns : List Int) (hns : ns.length ≤ 63) : ∃ st, callK (Wd r) 12 27 [.loc 0] [.ro (ns.map .int)] = .ok (.bl true) st := by
  have hp0 : cel [Cell.ro (ns.map .int)] 0 = some (.ro (ns.map .int)) := rfl
  obtain ⟨s, st1, e1, hs0, r1, k1⟩ := source_ok (r := r) (K := 11) (j := 0) (by omega) hp0 (by omega) (by omega) (by omega)
  obtain ⟨v, st2, e2, v0, v1, r2, k2⟩ := draw_ok (r := r) (K := 11) (m := 8) (by omega) r1 (by omega) (by omega) (by omega)
  have hs1 : 1 ≤ s := hs0
  have hsl := r1.lt
  have hp1 : cel st1 0 = some (.ro (ns.map .int)) := cel_keep k1 hp0 (by simp)
  have hp2 : cel st2 0 = some (.ro (ns.map .int)) := cel_keep k2 hp1 (by simp; omega)
  have stage1 : ∃ (m : Nat) (st3 : Store), evSs ⟨callK (Wd r) 11, (Wd r).repr, (Wd r).wf⟩ (d_law.body.take 2) ([MV.loc 0].map some ++ List.replicate (d_law.ns - [MV.loc 0].length) none) [.ro (ns.map .int)] = .ok (.next [some (.loc 0), some (.loc s), some (.loc m), none, none, none, none, none, none, none, none]) st3 ∧ Keep [s] st2 st3 ∧
      ∃ A M cells, ModelAt st3 m A M ∧ MdOk M cells ∧ 1 ≤ cells ∧ cells ≤ 20 ∧ M.n ≤ 14 ∧ ∀ r, Live M.n r → st2.length ≤ A r := by
    by_cases c : v = 7
    · obtain ⟨m, st3, e3, k3, r3, A, M, cells, h, ok, h1, h2, h3, h4⟩ := world_ok (r := r) (K := 11) (most := 14) (by omega) r2 (by omega) (by omega) hp2 (by omega) (by omega)
      have e3' : callK (Wd r) 11 22 [.loc 0, .loc s, .int 14] st2 = .ok (.loc m) st3 := e3
      exact ⟨m, st3, by simp [d_law, e1, e2, c, e3'], k3, A, M, cells, h, ok, h1, h2, h3, h4⟩
    · obtain ⟨m, st3, e3, k3, r3, A, M, cells, h, ok, h1, h2, h3, h4⟩ := world_ok (r := r) (K := 11) (most := 6) (by omega) r2 (by omega) (by omega) hp2 (by omega) (by omega)
      have e3' : callK (Wd r) 11 22 [.loc 0, .loc s, .int 6] st2 = .ok (.loc m) st3 := e3
      exact ⟨m, st3, by simp [d_law, e1, e2, c, e3'], k3, A, M, cells, h, ok, h1, h2, by omega, h4⟩
  obtain ⟨m, st3, stage1, k3, A, M, cells, h3, ok, hc1, hc2, hn, hA⟩ := stage1
  have hp3 : cel st3 0 = some (.ro (ns.map .int)) := cel_keep k3 hp2 (by simp; omega)
  obtain ⟨b, st4, e4, k4, hb, G, S, B, hB4, rel, hG⟩ := book_ok (r := r) (K := 11) (by omega) h3 ok (by omega) hc1 (by omega)
  have h4 := h3.ext k4
  have K4 := k4.len
  have hAl : ∀ r, Live M.n r → A r < st3.length := fun r hr => h3.lt hr
  have hGl : ∀ r, LiveB S.n r → G r < st4.length := fun r hr => hB4.lt hr
  have stage2 : ∃ (a : Nat) (st5 : Store) (ts : List (List Int)), evSs ⟨callK (Wd r) 11, (Wd r).repr, (Wd r).wf⟩ ((d_law.body.drop 2).take 3) [some (.loc 0), some (.loc s), some (.loc m), none, none, none, none, none, none, none, none] st3 = .ok (.next [some (.loc 0), some (.loc s), some (.loc m), some (.loc b), some (.int M.n), some (.loc a), none, none, none, none, none]) st5 ∧ Keep [] st4 st5 ∧ st4.length ≤ a ∧ Tups st5 a ts ∧ ts.length ≤ 128 ∧ ∀ t, t ∈ ts → t.length ≤ 100 := by
    by_cases c : (M.n : Int) < 7
    · obtain ⟨a, st5, e5, k5, ha, ts, ht, hl, hl2⟩ := subsets_ok (r := r) (K := 11) (n := M.n) (st := st4) (by omega) (by omega)
      refine ⟨a, st5, ts, ?_, k5, ha, ht, hl, hl2⟩
      simp [d_law, e4, h4.t, h4.wl, c, e5]
    · have eR := mkTupR_ok (i := 1) (j := (M.n : Int) + 1) (s := st4) ⟨by omega, by omega, by omega, by omega⟩
      rw [rgL_map, show ((M.n : Int) + 1 - 1).toNat = M.n by omega] at eR
      refine ⟨st4.length, st4 ++ [.lst [.tup [], .tup [.int 1], .tup [.int M.n], .tup ((rgI 1 M.n).map .int)]], [[], [1], [(M.n : Int)], rgI 1 M.n], ?_, Keep.new, Nat.le_refl _, ⟨?_, by simp, ?_⟩, by simp, ?_⟩
      · simp [d_law, e4, h4.t, h4.wl, c, eR, newL_ok, sizeMax]
      · simp [tupI]
      · intro t ht
        simp at ht
        rcases ht with rfl | rfl | rfl | rfl <;> simp <;> omega
      · intro t ht
        simp at ht
        rcases ht with rfl | rfl | rfl | rfl <;> simp <;> omega
  obtain ⟨a, st5, ts, stage2, k5, ha, ht, htl, htl2⟩ := stage2
  have h5 := h4.ext k5
  have K5 := k5.len
  have hp5 : cel st5 0 = some (.ro (ns.map .int)) := cel_keep k5 (cel_keep k4 hp3 (by simp)) (by simp)
  have stage3 : ∃ (p : Nat × List (List Int)) (st6 : Store), evSs ⟨callK (Wd r) 11, (Wd r).repr, (Wd r).wf⟩ ((d_law.body.drop 5).take 1) [some (.loc 0), some (.loc s), some (.loc m), some (.loc b), some (.int M.n), some (.loc a), none, none, none, none, none] st5 = .ok (.next [some (.loc 0), some (.loc s), some (.loc m), some (.loc b), some (.int M.n), some (.loc a), some (.loc p.1), none, none, none, none]) st6 ∧ Keep [] st5 st6 ∧ st5.length ≤ p.1 ∧ Tups st6 p.1 p.2 ∧ p.2.length ≤ 100 := by
    refine OkQ.ex (fun p : Nat × List (List Int) => Ctl.next [some (.loc 0), some (.loc s), some (.loc m), some (.loc b), some (.int M.n), some (.loc a), some (.loc p.1), none, none, none, none]) fun Q hQ => ?_
    obtain ⟨z1, hz1⟩ : ∃ z1 : Int, z1 = if (31 : Int) < ns.length then 31 else (ns.length : Int) := ⟨_, rfl⟩
    have hz1' : z1 ≤ 31 := by
      rw [hz1]
      by_cases g : (31 : Int) < ns.length
      · rw [if_pos g]; omega
      · rw [if_neg g]; omega
    obtain ⟨z, hz⟩ : ∃ z : Int, z = if z1 > 9 then z1 else 9 := ⟨_, rfl⟩
    have hz' : 9 ≤ z ∧ z ≤ 31 := by
      rw [hz]
      by_cases g : z1 > 9
      · rw [if_pos g]; omega
      · rw [if_neg g]; omega
    have em : ∀ C s, prim C .min2 [.int ns.length, .int 31] s = .ok (.int z1) s := fun C s => by rw [hz1]; rfl
    have eM : ∀ C s, prim C .max2 [.int 9, .int z1] s = .ok (.int z) s := fun C s => by rw [hz]; rfl
    have hr2 : ∀ s, mkR2 (.int 3) (.int z) s = .ok (.rng 3 1 (z - 3).toNat) s := fun s => mk_r2 (by omega) (by omega) (by omega) (by omega)
    simp [d_law, hp5, -p_min2, em, -p_max2, eM, hr2]
    simp only [okQ_bind]
    refine okQ_lcRng (by unfold sizeMax; omega) (fun i s' => Keep [] st5 s') (fun y => ∃ l : List Int, y = tupI l ∧ l.length ≤ 100) Keep.new (fun i s' c hI => hI.setNew (Nat.le_refl _)) (fun i s' hi hI => ?_) (fun acc s' hc hl hR hI => ?_)
    · have hps := cel_keep hI hp5 (by simp)
      obtain ⟨w, s2, f1, hw, rw1, kw⟩ := source_ok (r := r) (K := 11) (j := 3 + (i : Int) * 1) (by omega) hps (by omega) (by omega) (by omega)
      have hm2 := (h5.ext hI).ext kw
      have hwl := hI.len
      obtain ⟨l, s3, f2, ko, hl⟩ := odd_ok (r := r) (K := 11) (by omega) hm2 ok (by omega) rw1 (by omega) (fun r hr => by have := hAl r hr; omega)
      simp only [lcTurn_nm, t_s0]
      simp only [Int.mul_one] at f1 ⊢
      simp [f1, f2]
      have kk : Keep [] s' s3 := kw.tail ko fun x hx => by
        rw [List.mem_singleton.mp hx]
        exact .inr hw
      exact ⟨⟨l, rfl, hl⟩, fun c hc => cel_keep kk hc (by simp), hI.trans kk⟩
    · obtain ⟨ts, rfl, htn⟩ := tups_of hR
      rw [List.length_map] at hl
      simp
      exact hQ (_, ts) s' ⟨hI, Nat.le_refl _, ⟨hc, by show ts.length ≤ 10000; omega, fun t ht => by have := htn t ht; omega⟩, by show ts.length ≤ 100; omega⟩
  obtain ⟨⟨D, ds⟩, st6, stage3, k6, hD, hds, hdl⟩ := stage3
  replace hD : st5.length ≤ D := hD
  replace hds : Tups st6 D ds := hds
  replace hdl : ds.length ≤ 100 := hdl
  have K6 := k6.len
  have h6 := h5.ext k6
  have hB6 := (hB4.ext k5).ext k6
  have ht6 := ht.keep k6 (by simp)
  obtain ⟨st7, e7, k7⟩ := agrees_ok (r := r) (K := 11) (by omega) hB6 h6 ok (by omega) rel ht6
  have hB7 := hB6.ext k7
  have h7 := h6.ext k7
  obtain ⟨st8, e8, k8⟩ := agrees_ok (r := r) (K := 11) (by omega) hB7 h7 ok (by omega) rel (hds.keep k7 (by simp))
  have ht8 := (ht6.keep k7 (by simp)).keep k8 (by simp)
  have hd8 := (hds.keep k7 (by simp)).keep k8 (by simp)
  obtain ⟨fs, hfs⟩ : ∃ fs, fs = ts ++ (ds ++ ts.map fun t => t ++ [(M.n : Int) + 1]) := ⟨_, rfl⟩
  have hlen1 : (ts.map tupI ++ ds.map tupI).length ≤ 16000000 := by
    have := hds.2.1
    simp
    omega
  have hlen2 : ((ts.map tupI ++ ds.map tupI) ++ (ts.map tupI).map (snocT ((M.n : Int) + 1))).length ≤ 16000000 := by
    have := hds.2.1
    simp
    omega
  have efs : (ts.map tupI ++ ds.map tupI) ++ (ts.map tupI).map (snocT ((M.n : Int) + 1)) = fs.map tupI := by
    rw [hfs, snocT_map, List.map_append, List.map_append, List.append_assoc]
  have ev9 : ∀ x, evE ⟨callK (Wd r) 11, (Wd r).repr, (Wd r).wf⟩ (.lcS (.nm 9) (.var 5) [] (.op2 .add (.var 9) (.tup [.op2 .add (.var 4) (.con (.int 1))]))) [some (.loc 0), some (.loc s), some (.loc m), some (.loc b), some (.int M.n), some (.loc a), some (.loc D), none, none, none, none] (st8 ++ [x]) = .ok (.loc (st8 ++ [x]).length) ((st8 ++ [x]) ++ [.lst ((ts.map tupI).map (snocT ((M.n : Int) + 1)))]) := fun x =>
    ev_map _ (by simp) (cel_app_old ht8.1) (by rw [List.length_map]; omega) (fun y acc hy => by
      obtain ⟨t, htm, rfl⟩ := List.mem_map.mp hy
      have := htl2 t htm
      have h1 : t.length + 1 ≤ 1000 := by omega
      simp [tupI, snocT, h1])
  obtain ⟨st9, hst9⟩ : ∃ st9, st9 = st8 ++ [.lst (ts.map tupI ++ ds.map tupI), .lst ((ts.map tupI).map (snocT ((M.n : Int) + 1))), .lst (fs.map tupI)] := ⟨_, rfl⟩
  have k9 : Keep [] st8 st9 := by rw [hst9]; exact Keep.new
  have hf9 : Tups st9 (st8.length + 2) fs := by
    refine ⟨by rw [hst9]; simp, ?_, fun t htm => ?_⟩
    · have := hds.2.1
      have := ht.2.1
      rw [hfs]
      simp
      omega
    · rw [hfs] at htm
      rcases List.mem_append.mp htm with htm | htm
      · have := htl2 t htm
        omega
      · rcases List.mem_append.mp htm with htm | htm
        · exact hds.2.2 t htm
        · obtain ⟨u, hu, rfl⟩ := List.mem_map.mp htm
          have := htl2 u hu
          simp
          omega
  have h9 := (h7.ext k8).ext k9
  have hB9 := (hB7.ext k8).ext k9
  obtain ⟨st10, e10, k10⟩ := agrees_ok (r := r) (K := 11) (by omega) hB9 h9 ok (by omega) rel hf9
  have k6_10 : Keep [] st6 st10 := k7.trans (k8.trans (k9.trans k10))
  have hp10 : cel st10 0 = some (.ro (ns.map .int)) := cel_keep k6_10 (cel_keep k6 hp5 (by simp)) (by simp)
  have K10 := k6_10.len
  have K8 := (k7.trans k8).len
  obtain ⟨w, st11, e11, hw, r11, k11⟩ := source_ok (r := r) (K := 11) (j := 2) (by omega) hp10 (by omega) (by omega) (by omega)
  have h11 := (h9.ext k10).ext k11
  have hB11 := (hB9.ext k10).ext k11
  have hf11 := (hf9.keep k10 (by simp)).keep k11 (by simp)
  obtain ⟨⟨A', M'⟩, st12, e12, g12⟩ := grow_ok (r := r) (K := 11) (by omega) h11 ok (by omega) hc1 (by omega) r11 (by omega) (fun r hr => by have := hAl r hr; omega)
  replace g12 : Grown st11.length st11 st12 m w (0 + 2 * M.n + 6) A M cells A' M' := g12
  have K11 := k11.len
  have k12 := g12.keep
  have hfx : ∀ x, x ∈ w :: foot A M.n → x = w ∨ x < st3.length := fun x hx => by
    rcases List.mem_cons.mp hx with hx | hx
    · exact .inl hx
    · obtain ⟨r, hr, rfl⟩ := foot_live hx
      exact .inr (hAl r hr)
  have hB12 := hB11.keep k12 (fun r hr z => by
    have a1 := hG r hr
    have a2 := hGl r hr
    rcases hfx _ z with z | z <;> omega)
  have lF : st8.length + 2 < st9.length := by rw [hst9]; simp
  have K9 := k10.len
  have hf12 := hf11.keep k12 (fun z => by
    rcases hfx _ z with z | z <;> omega)
  have hn' : M'.n = M.n + 1 := by
    obtain ⟨ws, sz, D, C, e⟩ := g12.ext
    rw [e]
    rfl
  have rel' : BkRel S M' M.n := by
    obtain ⟨ws, sz, D, C, e⟩ := g12.ext
    rw [e]
    exact rel.grown
  have h12 := g12.at_
  have ok' := g12.ok
  have hi : M.n + 1 ≤ M'.n := by omega
  have aW : atI ((List.range (M'.n + 1)).map fun i => MV.loc (A' (.w i))) ((M.n : Int) + 1) = some (.loc (A' (.w (M.n + 1)))) := by
    have := atI_nat ((List.range (M'.n + 1)).map fun i => MV.loc (A' (.w i))) (M.n + 1)
    rw [getF (by omega)] at this
    simpa using this
  have aS : atI ((List.range (M'.n + 1)).map fun i => MV.int (M'.S i)) ((M.n : Int) + 1) = some (.int (M'.S (M.n + 1))) := by
    have := atI_nat ((List.range (M'.n + 1)).map fun i => MV.int (M'.S i)) (M.n + 1)
    rw [getF (by omega)] at this
    simpa using this
  have aD : atI ((List.range (M'.n + 1)).map fun i => MV.loc (A' (.d i))) ((M.n : Int) + 1) = some (.loc (A' (.d (M.n + 1)))) := by
    have := atI_nat ((List.range (M'.n + 1)).map fun i => MV.loc (A' (.d i))) (M.n + 1)
    rw [getF (by omega)] at this
    simpa using this
  have aC : atI ((List.range (M'.n + 1)).map fun i => MV.loc (A' (.c i))) ((M.n : Int) + 1) = some (.loc (A' (.c (M.n + 1)))) := by
    have := atI_nat ((List.range (M'.n + 1)).map fun i => MV.loc (A' (.c i))) (M.n + 1)
    rw [getF (by omega)] at this
    simpa using this
  have lW : (prs (M'.W (M.n + 1))).length ≤ 16000000 := by
    have := ok'.lW (i := M.n + 1) hi
    simp [prs]
    omega
  have h13 := h12.ext (Keep.new (t := [.lst (prs (M'.W (M.n + 1)))]))
  have hB13 := hB12.ext (Keep.new (t := [.lst (prs (M'.W (M.n + 1)))]))
  have lD : ((M'.D (M.n + 1)).map MV.int).length ≤ 1000 := by have := ok'.lD (M.n + 1) hi; rw [List.length_map]; omega
  have lC : ((M'.C (M.n + 1)).map MV.int).length ≤ 1000 := by have := ok'.lC (M.n + 1) hi; rw [List.length_map]; omega
  obtain ⟨st14, e14, k14, G', S', B', hB14, rel14, hn14, hG14⟩ := step_ok (r := r) (K := 11) (w := st12.length) (by omega) hB13 ok' (by omega) rel' hi (by simp)
  have k12l := k12.len
  have h6x : ∀ x, x ∈ [G .nums, G .vals, G .szs, G .nds, G .brs, G .wrs] → st3.length ≤ x ∧ x < st4.length := fun x hx => ⟨keep6 hG hx, by
    simp only [List.mem_cons, List.not_mem_nil, or_false] at hx
    rcases hx with rfl | rfl | rfl | rfl | rfl | rfl
    · exact hGl .nums trivial
    · exact hGl .vals trivial
    · exact hGl .szs trivial
    · exact hGl .nds trivial
    · exact hGl .brs trivial
    · exact hGl .wrs trivial⟩
  have h14 := h13.keep k14 (fun r hr z => by
    have b1 := h6x _ z
    rw [hn'] at hr
    rcases g12.new r hr with ⟨q1, q2⟩ | q2
    · have := hAl r q1
      omega
    · omega)
  have hf14 := (hf12.keep (Keep.new (t := [.lst (prs (M'.W (M.n + 1)))])) (by simp)).keep k14 (fun z => by
    have b1 := h6x _ z
    omega)
  obtain ⟨st15, e15, k15⟩ := agrees_ok (r := r) (K := 11) (by omega) hB14 h14 ok' (by omega) (by rw [hn']; exact rel14) hf14
  refine ⟨st15, ?_⟩
  have hbl := ok.base
  rw [callK_eq (g_law r) rfl, evSs_split _ 2, stage1, Out.bind_ok, q_ssN, evSs_split _ 3, stage2, Out.bind_ok, q_ssN, List.drop_drop, evSs_split _ 1, stage3, Out.bind_ok, q_ssN, List.drop_drop]
  have c1 : cel ((st8 ++ [Cell.lst (ts.map tupI ++ ds.map tupI)]) ++ [.lst ((ts.map tupI).map (snocT ((M.n : Int) + 1)))]) st8.length = some (.lst (ts.map tupI ++ ds.map tupI)) := cel_app_old (by simp)
  have c2 : cel ((st8 ++ [Cell.lst (ts.map tupI ++ ds.map tupI)]) ++ [.lst ((ts.map tupI).map (snocT ((M.n : Int) + 1)))]) (st8 ++ [Cell.lst (ts.map tupI ++ ds.map tupI)]).length = some (.lst ((ts.map tupI).map (snocT ((M.n : Int) + 1)))) := by rw [cel_new]; rfl
  have c3 : ((st8 ++ [Cell.lst (ts.map tupI ++ ds.map tupI)]) ++ [.lst ((ts.map tupI).map (snocT ((M.n : Int) + 1)))]) ++ [.lst (fs.map tupI)] = st9 := by rw [hst9]; simp
  have c4 : ((st8 ++ [Cell.lst (ts.map tupI ++ ds.map tupI)]) ++ [Cell.lst ((ts.map tupI).map (snocT ((M.n : Int) + 1)))]).length = st8.length + 2 := by simp
  simp [d_law, e7, e8, ht8.1, hd8.1, -r_lcS]
  rw [newL_ok hlen1, Out.bind_ok, q_o1, ev9, Out.bind_ok, q_o2, o_addLL, c1, c2, adV_some, newL_ok hlen2, efs, c3, c4]
  rw [← hbl] at e12
  simp [e10, e11, h11.t, h11.base, e12, h12.t, h12.wl, aW, h12.wi hi, newL_ok, lW, hB12.t, h13.t, h13.dl, aD, h13.di hi, tpV_ok lD, h13.cl, aC, h13.ci hi, tpV_ok lC, h13.sl, aS, e14, e15]
end Mini
end

section
set_option maxRecDepth 100000
set_option maxHeartbeats 8000000
namespace Glue
open PySem PySem.Spec PyProof.Rows L2 DS
open Mini (MV)
def topS (i : Nat) : Stmt := PySem.Challenge.pw_livecopy_k07_what_is_a_version.main.body.getD i (.Pass ⟨0, 0, 0, 0⟩)
def T : Tab := ⟨["Book.__init__", "Book.make_patch", "Book._new_bars", "Book._members", "Book.check_number", "Book.mask_of", "Book.holds", "Book.__contains__", "least_number", "checked_writes", "_law_source", "_law_draw", "_law_needs", "_law_bars", "_law_writes", "_law_grow", "_law_model", "_law_book", "_law_fits", "_law_version", "_law_put", "_law_rich", "_law_world", "_law_is_version", "_law_odd", "_law_subsets", "_law_agrees", "law"], ["abs", "int", "len", "list", "max", "min", "range", "sorted", "tuple"], [(10, []), (11, []), (12, []), (13, []), (14, []), (15, []), (16, []), (17, []), (18, []), (19, []), (20, []), (21, []), (22, []), (23, []), (24, []), (25, []), (26, []), (8, []), (9, [])], [], [(0, 0), (0, 1), (0, 2), (0, 3), (0, 4), (0, 5), (0, 6), (0, 7)], [(0, "__contains__", 7, []), (0, "_members", 3, []), (0, "_new_bars", 2, []), (0, "check_number", 4, []), (0, "holds", 6, []), (0, "mask_of", 5, [])], [(0, "make_patch", 1, 2, ["requires", "conflicts", "size"], [none, none, none])], [(0, 0, [])]⟩
abbrev s_Book___init__ : Stmt := inClass (topS 12) 0
theorem sc_Book___init__ : FnScope ["self", "base"] ["self", "base"] (defScope s_Book___init__) := ⟨rfl, rfl, rfl, by decide +kernel, rfl, by decide +kernel, by decide +kernel⟩
theorem ck_Book___init__ : chkSs T 60 ⟨["self", "base"], defScope s_Book___init__, ["self", "base"]⟩ (defBody s_Book___init__) Mini.d_Book___init__.body = true := by decide +kernel
abbrev s_Book_make_patch : Stmt := inClass (topS 12) 1
theorem sc_Book_make_patch : FnScope ["self", "writes", "requires", "conflicts", "size", "values", "other", "number", "needs", "bars", "first", "others", "cell"] ["self", "writes", "requires", "conflicts", "size"] (defScope s_Book_make_patch) := ⟨rfl, rfl, rfl, by decide +kernel, rfl, by decide +kernel, by decide +kernel⟩
theorem ck_Book_make_patch : chkSs T 60 ⟨["self", "writes", "requires", "conflicts", "size", "values", "other", "number", "needs", "bars", "first", "others", "cell"], defScope s_Book_make_patch, ["self", "writes", "requires", "conflicts", "size", "values", "other", "number", "needs", "bars", "first", "others", "cell"]⟩ (defBody s_Book_make_patch) Mini.d_Book_make_patch.body = true := by decide +kernel
abbrev s_Book__new_bars : Stmt := inClass (topS 12) 2
theorem sc_Book__new_bars : FnScope ["self", "values", "needs", "direct", "hit", "cell", "other", "bars"] ["self", "values", "needs", "direct"] (defScope s_Book__new_bars) := ⟨rfl, rfl, rfl, by decide +kernel, rfl, by decide +kernel, by decide +kernel⟩
theorem ck_Book__new_bars : chkSs T 60 ⟨["self", "values", "needs", "direct", "hit", "cell", "other", "bars"], defScope s_Book__new_bars, ["self", "values", "needs", "direct", "hit", "cell", "other", "bars"]⟩ (defBody s_Book__new_bars) Mini.d_Book__new_bars.body = true := by decide +kernel
abbrev s_Book__members : Stmt := inClass (topS 12) 3
theorem sc_Book__members : FnScope ["self", "mask", "number"] ["self", "mask"] (defScope s_Book__members) := ⟨rfl, rfl, rfl, by decide +kernel, rfl, by decide +kernel, by decide +kernel⟩
theorem ck_Book__members : chkSs T 60 ⟨["self", "mask", "number"], defScope s_Book__members, ["self", "mask", "number"]⟩ (defBody s_Book__members) Mini.d_Book__members.body = true := by decide +kernel
abbrev s_Book_check_number : Stmt := inClass (topS 12) 4
theorem sc_Book_check_number : FnScope ["self", "number"] ["self", "number"] (defScope s_Book_check_number) := ⟨rfl, rfl, rfl, by decide +kernel, rfl, by decide +kernel, by decide +kernel⟩
theorem ck_Book_check_number : chkSs T 60 ⟨["self", "number"], defScope s_Book_check_number, ["self", "number"]⟩ (defBody s_Book_check_number) Mini.d_Book_check_number.body = true := by decide +kernel
abbrev s_Book_mask_of : Stmt := inClass (topS 12) 16
theorem sc_Book_mask_of : FnScope ["self", "numbers", "mask", "number"] ["self", "numbers"] (defScope s_Book_mask_of) := ⟨rfl, rfl, rfl, by decide +kernel, rfl, by decide +kernel, by decide +kernel⟩
theorem ck_Book_mask_of : chkSs T 60 ⟨["self", "numbers", "mask", "number"], defScope s_Book_mask_of, ["self", "numbers", "mask", "number"]⟩ (defBody s_Book_mask_of) Mini.d_Book_mask_of.body = true := by decide +kernel
abbrev s_Book_holds : Stmt := inClass (topS 12) 17
theorem sc_Book_holds : FnScope ["self", "numbers", "mask", "previous", "number", "needs"] ["self", "numbers"] (defScope s_Book_holds) := ⟨rfl, rfl, rfl, by decide +kernel, rfl, by decide +kernel, by decide +kernel⟩
theorem ck_Book_holds : chkSs T 60 ⟨["self", "numbers", "mask", "previous", "number", "needs"], defScope s_Book_holds, ["self", "numbers", "mask", "previous", "number", "needs"]⟩ (defBody s_Book_holds) Mini.d_Book_holds.body = true := by decide +kernel
abbrev s_Book___contains__ : Stmt := inClass (topS 12) 20
theorem sc_Book___contains__ : FnScope ["self", "version"] ["self", "version"] (defScope s_Book___contains__) := ⟨rfl, rfl, rfl, by decide +kernel, rfl, by decide +kernel, by decide +kernel⟩
theorem ck_Book___contains__ : chkSs T 60 ⟨["self", "version"], defScope s_Book___contains__, ["self", "version"]⟩ (defBody s_Book___contains__) Mini.d_Book___contains__.body = true := by decide +kernel
abbrev s_least_number : Stmt := topS 10
theorem sc_least_number : FnScope ["mask"] ["mask"] (defScope s_least_number) := ⟨rfl, rfl, rfl, by decide +kernel, rfl, by decide +kernel, by decide +kernel⟩
theorem ck_least_number : chkSs T 60 ⟨["mask"], defScope s_least_number, ["mask"]⟩ (defBody s_least_number) Mini.d_least_number.body = true := by decide +kernel
abbrev s_checked_writes : Stmt := topS 11
theorem sc_checked_writes : FnScope ["writes", "cells", "values", "cell", "value"] ["writes", "cells"] (defScope s_checked_writes) := ⟨rfl, rfl, rfl, by decide +kernel, rfl, by decide +kernel, by decide +kernel⟩
theorem ck_checked_writes : chkSs T 60 ⟨["writes", "cells", "values", "cell", "value"], defScope s_checked_writes, ["writes", "cells", "values", "cell", "value"]⟩ (defBody s_checked_writes) Mini.d_checked_writes.body = true := by decide +kernel
abbrev s__law_source : Stmt := topS 14
theorem sc__law_source : FnScope ["_law_script", "_law_place", "_law_cell"] ["_law_script", "_law_place"] (defScope s__law_source) := ⟨rfl, rfl, rfl, by decide +kernel, rfl, by decide +kernel, by decide +kernel⟩
theorem ck__law_source : chkSs T 60 ⟨["_law_script", "_law_place", "_law_cell"], defScope s__law_source, ["_law_script", "_law_place", "_law_cell"]⟩ (defBody s__law_source) Mini.d__law_source.body = true := by decide +kernel
abbrev s__law_draw : Stmt := topS 15
theorem sc__law_draw : FnScope ["_law_source_here", "_law_many", "_law_told", "_law_mixed"] ["_law_source_here", "_law_many"] (defScope s__law_draw) := ⟨rfl, rfl, rfl, by decide +kernel, rfl, by decide +kernel, by decide +kernel⟩
theorem ck__law_draw : chkSs T 60 ⟨["_law_source_here", "_law_many", "_law_told", "_law_mixed"], defScope s__law_draw, ["_law_source_here", "_law_many", "_law_told", "_law_mixed"]⟩ (defBody s__law_draw) Mini.d__law_draw.body = true := by decide +kernel
abbrev s__law_needs : Stmt := topS 16
theorem sc__law_needs : FnScope ["_law_model_here", "_law_demands", "_law_other", "_law_one"] ["_law_model_here", "_law_demands"] (defScope s__law_needs) := ⟨rfl, rfl, rfl, by decide +kernel, rfl, by decide +kernel, by decide +kernel⟩
theorem ck__law_needs : chkSs T 60 ⟨["_law_model_here", "_law_demands", "_law_other", "_law_one"], defScope s__law_needs, ["_law_model_here", "_law_demands", "_law_other", "_law_one"]⟩ (defBody s__law_needs) Mini.d__law_needs.body = true := by decide +kernel
abbrev s__law_bars : Stmt := topS 17
theorem sc__law_bars : FnScope ["_law_model_here", "_law_writes_here", "_law_needs_here", "_law_quarrels", "_law_hit", "_law_other", "_law_shared", "_law_pair", "_law_mine", "_law_drawn_in", "_law_one"] ["_law_model_here", "_law_writes_here", "_law_needs_here", "_law_quarrels"] (defScope s__law_bars) := ⟨rfl, rfl, rfl, by decide +kernel, rfl, by decide +kernel, by decide +kernel⟩
theorem ck__law_bars : chkSs T 60 ⟨["_law_model_here", "_law_writes_here", "_law_needs_here", "_law_quarrels", "_law_hit", "_law_other", "_law_shared", "_law_pair", "_law_mine", "_law_drawn_in", "_law_one"], defScope s__law_bars, ["_law_model_here", "_law_writes_here", "_law_needs_here", "_law_quarrels", "_law_hit", "_law_other", "_law_shared", "_law_pair", "_law_mine", "_law_drawn_in", "_law_one"]⟩ (defBody s__law_bars) Mini.d__law_bars.body = true := by decide +kernel
abbrev s__law_writes : Stmt := topS 18
theorem sc__law_writes : FnScope ["_law_source_here", "_law_cells", "_law_first", "_law_writes_here", "_law_second"] ["_law_source_here", "_law_cells"] (defScope s__law_writes) := ⟨rfl, rfl, rfl, by decide +kernel, rfl, by decide +kernel, by decide +kernel⟩
theorem ck__law_writes : chkSs T 60 ⟨["_law_source_here", "_law_cells", "_law_first", "_law_writes_here", "_law_second"], defScope s__law_writes, ["_law_source_here", "_law_cells", "_law_first", "_law_writes_here", "_law_second"]⟩ (defBody s__law_writes) Mini.d__law_writes.body = true := by decide +kernel
abbrev s__law_grow : Stmt := topS 19
theorem sc__law_grow : FnScope ["_law_source_here", "_law_model_here", "_law_cells", "_law_number", "_law_writes_here", "_law_demands", "_law_other", "_law_quarrels", "_law_needs_here", "_law_bars_here", "_law_extent"] ["_law_source_here", "_law_model_here", "_law_cells"] (defScope s__law_grow) := ⟨rfl, rfl, rfl, by decide +kernel, rfl, by decide +kernel, by decide +kernel⟩
theorem ck__law_grow : chkSs T 60 ⟨["_law_source_here", "_law_model_here", "_law_cells", "_law_number", "_law_writes_here", "_law_demands", "_law_other", "_law_quarrels", "_law_needs_here", "_law_bars_here", "_law_extent"], defScope s__law_grow, ["_law_source_here", "_law_model_here", "_law_cells", "_law_number", "_law_writes_here", "_law_demands", "_law_other", "_law_quarrels", "_law_needs_here", "_law_bars_here", "_law_extent"]⟩ (defBody s__law_grow) Mini.d__law_grow.body = true := by decide +kernel
abbrev s__law_model : Stmt := topS 20
theorem sc__law_model : FnScope ["_law_source_here", "_law_most", "_law_cells", "_law_base", "_law_place", "_law_model_here", "_law_turn"] ["_law_source_here", "_law_most", "_law_cells"] (defScope s__law_model) := ⟨rfl, rfl, rfl, by decide +kernel, rfl, by decide +kernel, by decide +kernel⟩
theorem ck__law_model : chkSs T 60 ⟨["_law_source_here", "_law_most", "_law_cells", "_law_base", "_law_place", "_law_model_here", "_law_turn"], defScope s__law_model, ["_law_source_here", "_law_most", "_law_cells", "_law_base", "_law_place", "_law_model_here", "_law_turn"]⟩ (defBody s__law_model) Mini.d__law_model.body = true := by decide +kernel
abbrev s__law_book : Stmt := topS 21
theorem sc__law_book : FnScope ["_law_model_here", "_law_book_here", "_law_number"] ["_law_model_here"] (defScope s__law_book) := ⟨rfl, rfl, rfl, by decide +kernel, rfl, by decide +kernel, by decide +kernel⟩
theorem ck__law_book : chkSs T 60 ⟨["_law_model_here", "_law_book_here", "_law_number"], defScope s__law_book, ["_law_model_here", "_law_book_here", "_law_number"]⟩ (defBody s__law_book) Mini.d__law_book.body = true := by decide +kernel
abbrev s__law_fits : Stmt := topS 22
theorem sc__law_fits : FnScope ["_law_model_here", "_law_taken", "_law_number", "_law_other"] ["_law_model_here", "_law_taken", "_law_number"] (defScope s__law_fits) := ⟨rfl, rfl, rfl, by decide +kernel, rfl, by decide +kernel, by decide +kernel⟩
theorem ck__law_fits : chkSs T 60 ⟨["_law_model_here", "_law_taken", "_law_number", "_law_other"], defScope s__law_fits, ["_law_model_here", "_law_taken", "_law_number", "_law_other"]⟩ (defBody s__law_fits) Mini.d__law_fits.body = true := by decide +kernel
abbrev s__law_version : Stmt := topS 23
theorem sc__law_version : FnScope ["_law_source_here", "_law_model_here", "_law_taken", "_law_number"] ["_law_source_here", "_law_model_here"] (defScope s__law_version) := ⟨rfl, rfl, rfl, by decide +kernel, rfl, by decide +kernel, by decide +kernel⟩
theorem ck__law_version : chkSs T 60 ⟨["_law_source_here", "_law_model_here", "_law_taken", "_law_number"], defScope s__law_version, ["_law_source_here", "_law_model_here", "_law_taken", "_law_number"]⟩ (defBody s__law_version) Mini.d__law_version.body = true := by decide +kernel
abbrev s__law_put : Stmt := topS 24
theorem sc__law_put : FnScope ["_law_source_here", "_law_model_here", "_law_cells", "_law_demands", "_law_number", "_law_writes_here", "_law_needs_here", "_law_quarrels", "_law_other", "_law_bars_here", "_law_extent"] ["_law_source_here", "_law_model_here", "_law_cells", "_law_demands"] (defScope s__law_put) := ⟨rfl, rfl, rfl, by decide +kernel, rfl, by decide +kernel, by decide +kernel⟩
theorem ck__law_put : chkSs T 60 ⟨["_law_source_here", "_law_model_here", "_law_cells", "_law_demands", "_law_number", "_law_writes_here", "_law_needs_here", "_law_quarrels", "_law_other", "_law_bars_here", "_law_extent"], defScope s__law_put, ["_law_source_here", "_law_model_here", "_law_cells", "_law_demands", "_law_number", "_law_writes_here", "_law_needs_here", "_law_quarrels", "_law_other", "_law_bars_here", "_law_extent"]⟩ (defBody s__law_put) Mini.d__law_put.body = true := by decide +kernel
abbrev s__law_rich : Stmt := topS 25
theorem sc__law_rich : FnScope ["_law_source_here", "_law_most", "_law_cells", "_law_base", "_law_place", "_law_model_here", "_law_turn", "_law_below", "_law_other"] ["_law_source_here", "_law_most", "_law_cells"] (defScope s__law_rich) := ⟨rfl, rfl, rfl, by decide +kernel, rfl, by decide +kernel, by decide +kernel⟩
theorem ck__law_rich : chkSs T 60 ⟨["_law_source_here", "_law_most", "_law_cells", "_law_base", "_law_place", "_law_model_here", "_law_turn", "_law_below", "_law_other"], defScope s__law_rich, ["_law_source_here", "_law_most", "_law_cells", "_law_base", "_law_place", "_law_model_here", "_law_turn", "_law_below", "_law_other"]⟩ (defBody s__law_rich) Mini.d__law_rich.body = true := by decide +kernel
abbrev s__law_world : Stmt := topS 26
theorem sc__law_world : FnScope ["_law_script", "_law_source_here", "_law_most"] ["_law_script", "_law_source_here", "_law_most"] (defScope s__law_world) := ⟨rfl, rfl, rfl, by decide +kernel, rfl, by decide +kernel, by decide +kernel⟩
theorem ck__law_world : chkSs T 60 ⟨["_law_script", "_law_source_here", "_law_most"], defScope s__law_world, ["_law_script", "_law_source_here", "_law_most"]⟩ (defBody s__law_world) Mini.d__law_world.body = true := by decide +kernel
abbrev s__law_is_version : Stmt := topS 27
theorem sc__law_is_version : FnScope ["_law_model_here", "_law_taken", "_law_place", "_law_number", "_law_other"] ["_law_model_here", "_law_taken"] (defScope s__law_is_version) := ⟨rfl, rfl, rfl, by decide +kernel, rfl, by decide +kernel, by decide +kernel⟩
theorem ck__law_is_version : chkSs T 60 ⟨["_law_model_here", "_law_taken", "_law_place", "_law_number", "_law_other"], defScope s__law_is_version, ["_law_model_here", "_law_taken", "_law_place", "_law_number", "_law_other"]⟩ (defBody s__law_is_version) Mini.d__law_is_version.body = true := by decide +kernel
abbrev s__law_odd : Stmt := topS 28
theorem sc__law_odd : FnScope ["_law_source_here", "_law_model_here", "_law_many", "_law_taken", "_law_kind", "_law_far", "_law_place", "_law_turn", "_law_number"] ["_law_source_here", "_law_model_here"] (defScope s__law_odd) := ⟨rfl, rfl, rfl, by decide +kernel, rfl, by decide +kernel, by decide +kernel⟩
theorem ck__law_odd : chkSs T 60 ⟨["_law_source_here", "_law_model_here", "_law_many", "_law_taken", "_law_kind", "_law_far", "_law_place", "_law_turn", "_law_number"], defScope s__law_odd, ["_law_source_here", "_law_model_here", "_law_many", "_law_taken", "_law_kind", "_law_far", "_law_place", "_law_turn", "_law_number"]⟩ (defBody s__law_odd) Mini.d__law_odd.body = true := by decide +kernel
abbrev s__law_subsets : Stmt := topS 29
theorem sc__law_subsets : FnScope ["_law_many", "_law_told", "_law_number", "_law_one"] ["_law_many"] (defScope s__law_subsets) := ⟨rfl, rfl, rfl, by decide +kernel, rfl, by decide +kernel, by decide +kernel⟩
theorem ck__law_subsets : chkSs T 60 ⟨["_law_many", "_law_told", "_law_number", "_law_one"], defScope s__law_subsets, ["_law_many", "_law_told", "_law_number", "_law_one"]⟩ (defBody s__law_subsets) Mini.d__law_subsets.body = true := by decide +kernel
abbrev s__law_agrees : Stmt := topS 30
theorem sc__law_agrees : FnScope ["_law_book_here", "_law_model_here", "_law_asked", "_law_taken"] ["_law_book_here", "_law_model_here", "_law_asked"] (defScope s__law_agrees) := ⟨rfl, rfl, rfl, by decide +kernel, rfl, by decide +kernel, by decide +kernel⟩
theorem ck__law_agrees : chkSs T 60 ⟨["_law_book_here", "_law_model_here", "_law_asked", "_law_taken"], defScope s__law_agrees, ["_law_book_here", "_law_model_here", "_law_asked", "_law_taken"]⟩ (defBody s__law_agrees) Mini.d__law_agrees.body = true := by decide +kernel
abbrev s_law : Stmt := topS 31
theorem sc_law : FnScope ["_law_script", "_law_source_here", "_law_model_here", "_law_book_here", "_law_many", "_law_asked", "_law_drawn", "_law_place", "_law_further", "_law_taken", "_law_told"] ["_law_script"] (defScope s_law) := ⟨rfl, rfl, rfl, by decide +kernel, rfl, by decide +kernel, by decide +kernel⟩
theorem ck_law : chkSs T 60 ⟨["_law_script", "_law_source_here", "_law_model_here", "_law_book_here", "_law_many", "_law_asked", "_law_drawn", "_law_place", "_law_further", "_law_taken", "_law_told"], defScope s_law, ["_law_script", "_law_source_here", "_law_model_here", "_law_book_here", "_law_many", "_law_asked", "_law_drawn", "_law_place", "_law_further", "_law_taken", "_law_told"]⟩ (defBody s_law) Mini.d_law.body = true := by decide +kernel
theorem all_mk {l : PySem.W.OpenLaw} {w : World} {K : PySem.W.Frag} {h : Heap} {mg : Str → Option Value} {fa : Addr} (X : K.In h) (G : h.Ns mainGlobals mg) (hfa : mg "law" = some (.ref fa))
    {C0 : Addr} (aC0 : PySem.W.nsIn K mainGlobals "Book" = some (some (.ref C0))) (pg0 : PySem.W.plainGet K C0 Str.empty = true) (hd0 : PySem.W.hasDictIn K C0 = true) (po0 : PySem.W.plainOver K C0 = true) (sa0 : PySem.W.findIn K (.ref C0) "__setattr__" = some (some (.builtin "object.__setattr__"))) (mk0 : PySem.W.makesIn K C0 = true) (kc0 : PySem.W.keepIn K (.ref C0) = true)
    (n0_0 : PySem.W.findIn K (.ref C0) "cells" = some none)
    (n0_1 : PySem.W.findIn K (.ref C0) "_base" = some none)
    (n0_2 : PySem.W.findIn K (.ref C0) "_numbers" = some none)
    (n0_3 : PySem.W.findIn K (.ref C0) "_values" = some none)
    (n0_4 : PySem.W.findIn K (.ref C0) "_sizes" = some none)
    (n0_5 : PySem.W.findIn K (.ref C0) "_needs" = some none)
    (n0_6 : PySem.W.findIn K (.ref C0) "_bars" = some none)
    (n0_7 : PySem.W.findIn K (.ref C0) "_writers" = some none)
    {f0 : Addr} {od0 an0 : Option Addr} {sl0 : Array (Option Value)} {oc0 kV0 dc0 pm0 cd0 ct0 : Value} (a0 : PySem.W.findIn K (.ref C0) "__init__" = some (some (.ref f0))) (i0 : PySem.W.isFn K (.ref f0) = true) (l0 : K.lookup f0 = some ⟨oc0, od0, .func (PySem.W.fnOf "__init__" "Book.__init__" (defArgs s_Book___init__) (defBody s_Book___init__) (defScope s_Book___init__) .none kV0 dc0 pm0 an0 cd0 ct0), sl0⟩) (c0 : PySem.W.codeIn K cd0 "Book.__init__" = true) (k0 : PySem.W.keepIn K (.ref f0) = true)
    {f1 : Addr} {D1 : Addr} {tk1_size : Tok} {od1 an1 : Option Addr} {sl1 : Array (Option Value)} {oc1 dc1 pm1 cd1 ct1 : Value} (a1 : PySem.W.findIn K (.ref C0) "make_patch" = some (some (.ref f1))) (i1 : PySem.W.isFn K (.ref f1) = true) (l1 : K.lookup f1 = some ⟨oc1, od1, .func (PySem.W.fnOf "make_patch" "Book.make_patch" (defArgs s_Book_make_patch) (defBody s_Book_make_patch) (defScope s_Book_make_patch) .none (.ref D1) dc1 pm1 an1 cd1 ct1), sl1⟩) (c1 : PySem.W.codeIn K cd1 "Book.make_patch" = true) (k1 : PySem.W.keepIn K (.ref f1) = true) (q1_size : PySem.W.nsIn K D1 "size" = some (some (.int (0) tk1_size)))
    {f2 : Addr} {od2 an2 : Option Addr} {sl2 : Array (Option Value)} {oc2 kV2 dc2 pm2 cd2 ct2 : Value} (a2 : PySem.W.findIn K (.ref C0) "_new_bars" = some (some (.ref f2))) (i2 : PySem.W.isFn K (.ref f2) = true) (l2 : K.lookup f2 = some ⟨oc2, od2, .func (PySem.W.fnOf "_new_bars" "Book._new_bars" (defArgs s_Book__new_bars) (defBody s_Book__new_bars) (defScope s_Book__new_bars) .none kV2 dc2 pm2 an2 cd2 ct2), sl2⟩) (c2 : PySem.W.codeIn K cd2 "Book._new_bars" = true) (k2 : PySem.W.keepIn K (.ref f2) = true)
    {f3 : Addr} {od3 an3 : Option Addr} {sl3 : Array (Option Value)} {oc3 kV3 dc3 pm3 cd3 ct3 : Value} (a3 : PySem.W.findIn K (.ref C0) "_members" = some (some (.ref f3))) (i3 : PySem.W.isFn K (.ref f3) = true) (l3 : K.lookup f3 = some ⟨oc3, od3, .func (PySem.W.fnOf "_members" "Book._members" (defArgs s_Book__members) (defBody s_Book__members) (defScope s_Book__members) .none kV3 dc3 pm3 an3 cd3 ct3), sl3⟩) (c3 : PySem.W.codeIn K cd3 "Book._members" = true) (k3 : PySem.W.keepIn K (.ref f3) = true)
    {f4 : Addr} {od4 an4 : Option Addr} {sl4 : Array (Option Value)} {oc4 kV4 dc4 pm4 cd4 ct4 : Value} (a4 : PySem.W.findIn K (.ref C0) "check_number" = some (some (.ref f4))) (i4 : PySem.W.isFn K (.ref f4) = true) (l4 : K.lookup f4 = some ⟨oc4, od4, .func (PySem.W.fnOf "check_number" "Book.check_number" (defArgs s_Book_check_number) (defBody s_Book_check_number) (defScope s_Book_check_number) .none kV4 dc4 pm4 an4 cd4 ct4), sl4⟩) (c4 : PySem.W.codeIn K cd4 "Book.check_number" = true) (k4 : PySem.W.keepIn K (.ref f4) = true)
    {f5 : Addr} {od5 an5 : Option Addr} {sl5 : Array (Option Value)} {oc5 kV5 dc5 pm5 cd5 ct5 : Value} (a5 : PySem.W.findIn K (.ref C0) "mask_of" = some (some (.ref f5))) (i5 : PySem.W.isFn K (.ref f5) = true) (l5 : K.lookup f5 = some ⟨oc5, od5, .func (PySem.W.fnOf "mask_of" "Book.mask_of" (defArgs s_Book_mask_of) (defBody s_Book_mask_of) (defScope s_Book_mask_of) .none kV5 dc5 pm5 an5 cd5 ct5), sl5⟩) (c5 : PySem.W.codeIn K cd5 "Book.mask_of" = true) (k5 : PySem.W.keepIn K (.ref f5) = true)
    {f6 : Addr} {od6 an6 : Option Addr} {sl6 : Array (Option Value)} {oc6 kV6 dc6 pm6 cd6 ct6 : Value} (a6 : PySem.W.findIn K (.ref C0) "holds" = some (some (.ref f6))) (i6 : PySem.W.isFn K (.ref f6) = true) (l6 : K.lookup f6 = some ⟨oc6, od6, .func (PySem.W.fnOf "holds" "Book.holds" (defArgs s_Book_holds) (defBody s_Book_holds) (defScope s_Book_holds) .none kV6 dc6 pm6 an6 cd6 ct6), sl6⟩) (c6 : PySem.W.codeIn K cd6 "Book.holds" = true) (k6 : PySem.W.keepIn K (.ref f6) = true)
    {f7 : Addr} {od7 an7 : Option Addr} {sl7 : Array (Option Value)} {oc7 kV7 dc7 pm7 cd7 ct7 : Value} (a7 : PySem.W.findIn K (.ref C0) "__contains__" = some (some (.ref f7))) (i7 : PySem.W.isFn K (.ref f7) = true) (l7 : K.lookup f7 = some ⟨oc7, od7, .func (PySem.W.fnOf "__contains__" "Book.__contains__" (defArgs s_Book___contains__) (defBody s_Book___contains__) (defScope s_Book___contains__) .none kV7 dc7 pm7 an7 cd7 ct7), sl7⟩) (c7 : PySem.W.codeIn K cd7 "Book.__contains__" = true) (k7 : PySem.W.keepIn K (.ref f7) = true)
    {f8 : Addr} {od8 an8 : Option Addr} {sl8 : Array (Option Value)} {oc8 kV8 dc8 pm8 cd8 ct8 : Value} (a8 : PySem.W.nsIn K mainGlobals "least_number" = some (some (.ref f8))) (l8 : K.lookup f8 = some ⟨oc8, od8, .func (PySem.W.fnOf "least_number" "least_number" (defArgs s_least_number) (defBody s_least_number) (defScope s_least_number) .none kV8 dc8 pm8 an8 cd8 ct8), sl8⟩) (c8 : PySem.W.codeIn K cd8 "least_number" = true) (k8 : PySem.W.keepIn K (.ref f8) = true)
    {f9 : Addr} {od9 an9 : Option Addr} {sl9 : Array (Option Value)} {oc9 kV9 dc9 pm9 cd9 ct9 : Value} (a9 : PySem.W.nsIn K mainGlobals "checked_writes" = some (some (.ref f9))) (l9 : K.lookup f9 = some ⟨oc9, od9, .func (PySem.W.fnOf "checked_writes" "checked_writes" (defArgs s_checked_writes) (defBody s_checked_writes) (defScope s_checked_writes) .none kV9 dc9 pm9 an9 cd9 ct9), sl9⟩) (c9 : PySem.W.codeIn K cd9 "checked_writes" = true) (k9 : PySem.W.keepIn K (.ref f9) = true)
    {f10 : Addr} {od10 an10 : Option Addr} {sl10 : Array (Option Value)} {oc10 kV10 dc10 pm10 cd10 ct10 : Value} (a10 : PySem.W.nsIn K mainGlobals "_law_source" = some (some (.ref f10))) (l10 : K.lookup f10 = some ⟨oc10, od10, .func (PySem.W.fnOf "_law_source" "_law_source" (defArgs s__law_source) (defBody s__law_source) (defScope s__law_source) .none kV10 dc10 pm10 an10 cd10 ct10), sl10⟩) (c10 : PySem.W.codeIn K cd10 "_law_source" = true) (k10 : PySem.W.keepIn K (.ref f10) = true)
    {f11 : Addr} {od11 an11 : Option Addr} {sl11 : Array (Option Value)} {oc11 kV11 dc11 pm11 cd11 ct11 : Value} (a11 : PySem.W.nsIn K mainGlobals "_law_draw" = some (some (.ref f11))) (l11 : K.lookup f11 = some ⟨oc11, od11, .func (PySem.W.fnOf "_law_draw" "_law_draw" (defArgs s__law_draw) (defBody s__law_draw) (defScope s__law_draw) .none kV11 dc11 pm11 an11 cd11 ct11), sl11⟩) (c11 : PySem.W.codeIn K cd11 "_law_draw" = true) (k11 : PySem.W.keepIn K (.ref f11) = true)
    {f12 : Addr} {od12 an12 : Option Addr} {sl12 : Array (Option Value)} {oc12 kV12 dc12 pm12 cd12 ct12 : Value} (a12 : PySem.W.nsIn K mainGlobals "_law_needs" = some (some (.ref f12))) (l12 : K.lookup f12 = some ⟨oc12, od12, .func (PySem.W.fnOf "_law_needs" "_law_needs" (defArgs s__law_needs) (defBody s__law_needs) (defScope s__law_needs) .none kV12 dc12 pm12 an12 cd12 ct12), sl12⟩) (c12 : PySem.W.codeIn K cd12 "_law_needs" = true) (k12 : PySem.W.keepIn K (.ref f12) = true)
    {f13 : Addr} {od13 an13 : Option Addr} {sl13 : Array (Option Value)} {oc13 kV13 dc13 pm13 cd13 ct13 : Value} (a13 : PySem.W.nsIn K mainGlobals "_law_bars" = some (some (.ref f13))) (l13 : K.lookup f13 = some ⟨oc13, od13, .func (PySem.W.fnOf "_law_bars" "_law_bars" (defArgs s__law_bars) (defBody s__law_bars) (defScope s__law_bars) .none kV13 dc13 pm13 an13 cd13 ct13), sl13⟩) (c13 : PySem.W.codeIn K cd13 "_law_bars" = true) (k13 : PySem.W.keepIn K (.ref f13) = true)
    {f14 : Addr} {od14 an14 : Option Addr} {sl14 : Array (Option Value)} {oc14 kV14 dc14 pm14 cd14 ct14 : Value} (a14 : PySem.W.nsIn K mainGlobals "_law_writes" = some (some (.ref f14))) (l14 : K.lookup f14 = some ⟨oc14, od14, .func (PySem.W.fnOf "_law_writes" "_law_writes" (defArgs s__law_writes) (defBody s__law_writes) (defScope s__law_writes) .none kV14 dc14 pm14 an14 cd14 ct14), sl14⟩) (c14 : PySem.W.codeIn K cd14 "_law_writes" = true) (k14 : PySem.W.keepIn K (.ref f14) = true)
    {f15 : Addr} {od15 an15 : Option Addr} {sl15 : Array (Option Value)} {oc15 kV15 dc15 pm15 cd15 ct15 : Value} (a15 : PySem.W.nsIn K mainGlobals "_law_grow" = some (some (.ref f15))) (l15 : K.lookup f15 = some ⟨oc15, od15, .func (PySem.W.fnOf "_law_grow" "_law_grow" (defArgs s__law_grow) (defBody s__law_grow) (defScope s__law_grow) .none kV15 dc15 pm15 an15 cd15 ct15), sl15⟩) (c15 : PySem.W.codeIn K cd15 "_law_grow" = true) (k15 : PySem.W.keepIn K (.ref f15) = true)
    {f16 : Addr} {od16 an16 : Option Addr} {sl16 : Array (Option Value)} {oc16 kV16 dc16 pm16 cd16 ct16 : Value} (a16 : PySem.W.nsIn K mainGlobals "_law_model" = some (some (.ref f16))) (l16 : K.lookup f16 = some ⟨oc16, od16, .func (PySem.W.fnOf "_law_model" "_law_model" (defArgs s__law_model) (defBody s__law_model) (defScope s__law_model) .none kV16 dc16 pm16 an16 cd16 ct16), sl16⟩) (c16 : PySem.W.codeIn K cd16 "_law_model" = true) (k16 : PySem.W.keepIn K (.ref f16) = true)
    {f17 : Addr} {od17 an17 : Option Addr} {sl17 : Array (Option Value)} {oc17 kV17 dc17 pm17 cd17 ct17 : Value} (a17 : PySem.W.nsIn K mainGlobals "_law_book" = some (some (.ref f17))) (l17 : K.lookup f17 = some ⟨oc17, od17, .func (PySem.W.fnOf "_law_book" "_law_book" (defArgs s__law_book) (defBody s__law_book) (defScope s__law_book) .none kV17 dc17 pm17 an17 cd17 ct17), sl17⟩) (c17 : PySem.W.codeIn K cd17 "_law_book" = true) (k17 : PySem.W.keepIn K (.ref f17) = true)
    {f18 : Addr} {od18 an18 : Option Addr} {sl18 : Array (Option Value)} {oc18 kV18 dc18 pm18 cd18 ct18 : Value} (a18 : PySem.W.nsIn K mainGlobals "_law_fits" = some (some (.ref f18))) (l18 : K.lookup f18 = some ⟨oc18, od18, .func (PySem.W.fnOf "_law_fits" "_law_fits" (defArgs s__law_fits) (defBody s__law_fits) (defScope s__law_fits) .none kV18 dc18 pm18 an18 cd18 ct18), sl18⟩) (c18 : PySem.W.codeIn K cd18 "_law_fits" = true) (k18 : PySem.W.keepIn K (.ref f18) = true)
    {f19 : Addr} {od19 an19 : Option Addr} {sl19 : Array (Option Value)} {oc19 kV19 dc19 pm19 cd19 ct19 : Value} (a19 : PySem.W.nsIn K mainGlobals "_law_version" = some (some (.ref f19))) (l19 : K.lookup f19 = some ⟨oc19, od19, .func (PySem.W.fnOf "_law_version" "_law_version" (defArgs s__law_version) (defBody s__law_version) (defScope s__law_version) .none kV19 dc19 pm19 an19 cd19 ct19), sl19⟩) (c19 : PySem.W.codeIn K cd19 "_law_version" = true) (k19 : PySem.W.keepIn K (.ref f19) = true)
    {f20 : Addr} {od20 an20 : Option Addr} {sl20 : Array (Option Value)} {oc20 kV20 dc20 pm20 cd20 ct20 : Value} (a20 : PySem.W.nsIn K mainGlobals "_law_put" = some (some (.ref f20))) (l20 : K.lookup f20 = some ⟨oc20, od20, .func (PySem.W.fnOf "_law_put" "_law_put" (defArgs s__law_put) (defBody s__law_put) (defScope s__law_put) .none kV20 dc20 pm20 an20 cd20 ct20), sl20⟩) (c20 : PySem.W.codeIn K cd20 "_law_put" = true) (k20 : PySem.W.keepIn K (.ref f20) = true)
    {f21 : Addr} {od21 an21 : Option Addr} {sl21 : Array (Option Value)} {oc21 kV21 dc21 pm21 cd21 ct21 : Value} (a21 : PySem.W.nsIn K mainGlobals "_law_rich" = some (some (.ref f21))) (l21 : K.lookup f21 = some ⟨oc21, od21, .func (PySem.W.fnOf "_law_rich" "_law_rich" (defArgs s__law_rich) (defBody s__law_rich) (defScope s__law_rich) .none kV21 dc21 pm21 an21 cd21 ct21), sl21⟩) (c21 : PySem.W.codeIn K cd21 "_law_rich" = true) (k21 : PySem.W.keepIn K (.ref f21) = true)
    {f22 : Addr} {od22 an22 : Option Addr} {sl22 : Array (Option Value)} {oc22 kV22 dc22 pm22 cd22 ct22 : Value} (a22 : PySem.W.nsIn K mainGlobals "_law_world" = some (some (.ref f22))) (l22 : K.lookup f22 = some ⟨oc22, od22, .func (PySem.W.fnOf "_law_world" "_law_world" (defArgs s__law_world) (defBody s__law_world) (defScope s__law_world) .none kV22 dc22 pm22 an22 cd22 ct22), sl22⟩) (c22 : PySem.W.codeIn K cd22 "_law_world" = true) (k22 : PySem.W.keepIn K (.ref f22) = true)
    {f23 : Addr} {od23 an23 : Option Addr} {sl23 : Array (Option Value)} {oc23 kV23 dc23 pm23 cd23 ct23 : Value} (a23 : PySem.W.nsIn K mainGlobals "_law_is_version" = some (some (.ref f23))) (l23 : K.lookup f23 = some ⟨oc23, od23, .func (PySem.W.fnOf "_law_is_version" "_law_is_version" (defArgs s__law_is_version) (defBody s__law_is_version) (defScope s__law_is_version) .none kV23 dc23 pm23 an23 cd23 ct23), sl23⟩) (c23 : PySem.W.codeIn K cd23 "_law_is_version" = true) (k23 : PySem.W.keepIn K (.ref f23) = true)
    {f24 : Addr} {od24 an24 : Option Addr} {sl24 : Array (Option Value)} {oc24 kV24 dc24 pm24 cd24 ct24 : Value} (a24 : PySem.W.nsIn K mainGlobals "_law_odd" = some (some (.ref f24))) (l24 : K.lookup f24 = some ⟨oc24, od24, .func (PySem.W.fnOf "_law_odd" "_law_odd" (defArgs s__law_odd) (defBody s__law_odd) (defScope s__law_odd) .none kV24 dc24 pm24 an24 cd24 ct24), sl24⟩) (c24 : PySem.W.codeIn K cd24 "_law_odd" = true) (k24 : PySem.W.keepIn K (.ref f24) = true)
    {f25 : Addr} {od25 an25 : Option Addr} {sl25 : Array (Option Value)} {oc25 kV25 dc25 pm25 cd25 ct25 : Value} (a25 : PySem.W.nsIn K mainGlobals "_law_subsets" = some (some (.ref f25))) (l25 : K.lookup f25 = some ⟨oc25, od25, .func (PySem.W.fnOf "_law_subsets" "_law_subsets" (defArgs s__law_subsets) (defBody s__law_subsets) (defScope s__law_subsets) .none kV25 dc25 pm25 an25 cd25 ct25), sl25⟩) (c25 : PySem.W.codeIn K cd25 "_law_subsets" = true) (k25 : PySem.W.keepIn K (.ref f25) = true)
    {f26 : Addr} {od26 an26 : Option Addr} {sl26 : Array (Option Value)} {oc26 kV26 dc26 pm26 cd26 ct26 : Value} (a26 : PySem.W.nsIn K mainGlobals "_law_agrees" = some (some (.ref f26))) (l26 : K.lookup f26 = some ⟨oc26, od26, .func (PySem.W.fnOf "_law_agrees" "_law_agrees" (defArgs s__law_agrees) (defBody s__law_agrees) (defScope s__law_agrees) .none kV26 dc26 pm26 an26 cd26 ct26), sl26⟩) (c26 : PySem.W.codeIn K cd26 "_law_agrees" = true) (k26 : PySem.W.keepIn K (.ref f26) = true)
    {f27 : Addr} {od27 an27 : Option Addr} {sl27 : Array (Option Value)} {oc27 kV27 dc27 pm27 cd27 ct27 : Value} (a27 : PySem.W.nsIn K mainGlobals "law" = some (some (.ref f27))) (l27 : K.lookup f27 = some ⟨oc27, od27, .func (PySem.W.fnOf "law" "law" (defArgs s_law) (defBody s_law) (defScope s_law) .none kV27 dc27 pm27 an27 cd27 ct27), sl27⟩) (c27 : PySem.W.codeIn K cd27 "law" = true) (k27 : PySem.W.keepIn K (.ref f27) = true)
    (z0 : PySem.W.nsIn K mainGlobals "abs" = some none)
    (z1 : PySem.W.nsIn K mainGlobals "int" = some none)
    (z2 : PySem.W.nsIn K mainGlobals "len" = some none)
    (z3 : PySem.W.nsIn K mainGlobals "list" = some none)
    (z4 : PySem.W.nsIn K mainGlobals "max" = some none)
    (z5 : PySem.W.nsIn K mainGlobals "min" = some none)
    (z6 : PySem.W.nsIn K mainGlobals "range" = some none)
    (z7 : PySem.W.nsIn K mainGlobals "sorted" = some none)
    (z8 : PySem.W.nsIn K mainGlobals "tuple" = some none) :
    ∃ fd : FuncData, (∀ (s : Shared) (v : Value), BindsTo s fd ⟨[v], []⟩ [("_law_script", v)]) ∧ ∀ base : Heap, K.In base → base.Ns mainGlobals mg → FnG l.prog w K mg base (2 * 12) fa fd ["_law_script"] (spD K (Mini.Wd reprPy) 12 27) := by
  have e := hfa.symm.trans (PySem.W.mg_of X G a27)
  cases e
  have CC0 : Cls K C0 := ⟨pg0, hd0, po0, sa0⟩
  have CA0 : ClsAt K 0 C0 := ⟨_, rfl, aC0⟩
  have F0 := fun_mk (st := s_Book___init__) l0 c0 k0
  have F1 : FunD K "make_patch" "Book.make_patch" (defArgs s_Book_make_patch) (defBody s_Book_make_patch) (defScope s_Book_make_patch) [] [("size", .int (0))] f1 _ := ⟨⟨_, _, .none, .ref D1, _, _, _, _, _, _, rfl, l1, c1, .inl ⟨rfl, rfl⟩, .inr ⟨D1, rfl, fun q hq => by
    simp only [List.mem_cons, List.not_mem_nil, or_false] at hq
    subst hq
    · exact ⟨_, q1_size, ⟨_, rfl⟩⟩⟩⟩, k1⟩
  have F2 := fun_mk (st := s_Book__new_bars) l2 c2 k2
  have F3 := fun_mk (st := s_Book__members) l3 c3 k3
  have F4 := fun_mk (st := s_Book_check_number) l4 c4 k4
  have F5 := fun_mk (st := s_Book_mask_of) l5 c5 k5
  have F6 := fun_mk (st := s_Book_holds) l6 c6 k6
  have F7 := fun_mk (st := s_Book___contains__) l7 c7 k7
  have F8 := fun_mk (st := s_least_number) l8 c8 k8
  have F9 := fun_mk (st := s_checked_writes) l9 c9 k9
  have F10 := fun_mk (st := s__law_source) l10 c10 k10
  have F11 := fun_mk (st := s__law_draw) l11 c11 k11
  have F12 := fun_mk (st := s__law_needs) l12 c12 k12
  have F13 := fun_mk (st := s__law_bars) l13 c13 k13
  have F14 := fun_mk (st := s__law_writes) l14 c14 k14
  have F15 := fun_mk (st := s__law_grow) l15 c15 k15
  have F16 := fun_mk (st := s__law_model) l16 c16 k16
  have F17 := fun_mk (st := s__law_book) l17 c17 k17
  have F18 := fun_mk (st := s__law_fits) l18 c18 k18
  have F19 := fun_mk (st := s__law_version) l19 c19 k19
  have F20 := fun_mk (st := s__law_put) l20 c20 k20
  have F21 := fun_mk (st := s__law_rich) l21 c21 k21
  have F22 := fun_mk (st := s__law_world) l22 c22 k22
  have F23 := fun_mk (st := s__law_is_version) l23 c23 k23
  have F24 := fun_mk (st := s__law_odd) l24 c24 k24
  have F25 := fun_mk (st := s__law_subsets) l25 c25 k25
  have F26 := fun_mk (st := s__law_agrees) l26 c26 k26
  have F27 := fun_mk (st := s_law) l27 c27 k27
  have hz : ∀ x, x ∈ T.blts → mg x = none := fun x hx => by
    simp only [T, List.mem_cons, List.not_mem_nil, or_false] at hx
    rcases hx with rfl | rfl | rfl | rfl | rfl | rfl | rfl | rfl | rfl
    · exact PySem.W.mg_none_of X G z0
    · exact PySem.W.mg_none_of X G z1
    · exact PySem.W.mg_none_of X G z2
    · exact PySem.W.mg_none_of X G z3
    · exact PySem.W.mg_none_of X G z4
    · exact PySem.W.mg_none_of X G z5
    · exact PySem.W.mg_none_of X G z6
    · exact PySem.W.mg_none_of X G z7
    · exact PySem.W.mg_none_of X G z8
  have hE : ∀ (f : Nat) (x : Str) (dl : List MV), T.fns[f]? = some x → (f, dl) ∈ T.modes → Ent T (Mini.Wd reprPy) K mg f x dl := fun f x dl h1 h2 => by
    simp only [T, List.mem_cons, List.not_mem_nil, or_false] at h2
    rcases h2 with h2 | h2 | h2 | h2 | h2 | h2 | h2 | h2 | h2 | h2 | h2 | h2 | h2 | h2 | h2 | h2 | h2 | h2 | h2
    · cases h2
      cases h1
      exact ⟨⟨f10, _, ["_law_script", "_law_place"], _, [], [], s__law_source, 60, Mini.d__law_source, PySem.W.mg_of X G a10, .of F10, F10.binds (ps := ["_law_script", "_law_place"]) (fun _ _ _ _ _ _ us hl => match us, hl with | [_, _], _ => rfl), .nil, .nil, sc__law_source, rfl, rfl, rfl, ck__law_source⟩⟩
    · cases h2
      cases h1
      exact ⟨⟨f11, _, ["_law_source_here", "_law_many"], _, [], [], s__law_draw, 60, Mini.d__law_draw, PySem.W.mg_of X G a11, .of F11, F11.binds (ps := ["_law_source_here", "_law_many"]) (fun _ _ _ _ _ _ us hl => match us, hl with | [_, _], _ => rfl), .nil, .nil, sc__law_draw, rfl, rfl, rfl, ck__law_draw⟩⟩
    · cases h2
      cases h1
      exact ⟨⟨f12, _, ["_law_model_here", "_law_demands"], _, [], [], s__law_needs, 60, Mini.d__law_needs, PySem.W.mg_of X G a12, .of F12, F12.binds (ps := ["_law_model_here", "_law_demands"]) (fun _ _ _ _ _ _ us hl => match us, hl with | [_, _], _ => rfl), .nil, .nil, sc__law_needs, rfl, rfl, rfl, ck__law_needs⟩⟩
    · cases h2
      cases h1
      exact ⟨⟨f13, _, ["_law_model_here", "_law_writes_here", "_law_needs_here", "_law_quarrels"], _, [], [], s__law_bars, 60, Mini.d__law_bars, PySem.W.mg_of X G a13, .of F13, F13.binds (ps := ["_law_model_here", "_law_writes_here", "_law_needs_here", "_law_quarrels"]) (fun _ _ _ _ _ _ us hl => match us, hl with | [_, _, _, _], _ => rfl), .nil, .nil, sc__law_bars, rfl, rfl, rfl, ck__law_bars⟩⟩
    · cases h2
      cases h1
      exact ⟨⟨f14, _, ["_law_source_here", "_law_cells"], _, [], [], s__law_writes, 60, Mini.d__law_writes, PySem.W.mg_of X G a14, .of F14, F14.binds (ps := ["_law_source_here", "_law_cells"]) (fun _ _ _ _ _ _ us hl => match us, hl with | [_, _], _ => rfl), .nil, .nil, sc__law_writes, rfl, rfl, rfl, ck__law_writes⟩⟩
    · cases h2
      cases h1
      exact ⟨⟨f15, _, ["_law_source_here", "_law_model_here", "_law_cells"], _, [], [], s__law_grow, 60, Mini.d__law_grow, PySem.W.mg_of X G a15, .of F15, F15.binds (ps := ["_law_source_here", "_law_model_here", "_law_cells"]) (fun _ _ _ _ _ _ us hl => match us, hl with | [_, _, _], _ => rfl), .nil, .nil, sc__law_grow, rfl, rfl, rfl, ck__law_grow⟩⟩
    · cases h2
      cases h1
      exact ⟨⟨f16, _, ["_law_source_here", "_law_most", "_law_cells"], _, [], [], s__law_model, 60, Mini.d__law_model, PySem.W.mg_of X G a16, .of F16, F16.binds (ps := ["_law_source_here", "_law_most", "_law_cells"]) (fun _ _ _ _ _ _ us hl => match us, hl with | [_, _, _], _ => rfl), .nil, .nil, sc__law_model, rfl, rfl, rfl, ck__law_model⟩⟩
    · cases h2
      cases h1
      exact ⟨⟨f17, _, ["_law_model_here"], _, [], [], s__law_book, 60, Mini.d__law_book, PySem.W.mg_of X G a17, .of F17, F17.binds (ps := ["_law_model_here"]) (fun _ _ _ _ _ _ us hl => match us, hl with | [_], _ => rfl), .nil, .nil, sc__law_book, rfl, rfl, rfl, ck__law_book⟩⟩
    · cases h2
      cases h1
      exact ⟨⟨f18, _, ["_law_model_here", "_law_taken", "_law_number"], _, [], [], s__law_fits, 60, Mini.d__law_fits, PySem.W.mg_of X G a18, .of F18, F18.binds (ps := ["_law_model_here", "_law_taken", "_law_number"]) (fun _ _ _ _ _ _ us hl => match us, hl with | [_, _, _], _ => rfl), .nil, .nil, sc__law_fits, rfl, rfl, rfl, ck__law_fits⟩⟩
    · cases h2
      cases h1
      exact ⟨⟨f19, _, ["_law_source_here", "_law_model_here"], _, [], [], s__law_version, 60, Mini.d__law_version, PySem.W.mg_of X G a19, .of F19, F19.binds (ps := ["_law_source_here", "_law_model_here"]) (fun _ _ _ _ _ _ us hl => match us, hl with | [_, _], _ => rfl), .nil, .nil, sc__law_version, rfl, rfl, rfl, ck__law_version⟩⟩
    · cases h2
      cases h1
      exact ⟨⟨f20, _, ["_law_source_here", "_law_model_here", "_law_cells", "_law_demands"], _, [], [], s__law_put, 60, Mini.d__law_put, PySem.W.mg_of X G a20, .of F20, F20.binds (ps := ["_law_source_here", "_law_model_here", "_law_cells", "_law_demands"]) (fun _ _ _ _ _ _ us hl => match us, hl with | [_, _, _, _], _ => rfl), .nil, .nil, sc__law_put, rfl, rfl, rfl, ck__law_put⟩⟩
    · cases h2
      cases h1
      exact ⟨⟨f21, _, ["_law_source_here", "_law_most", "_law_cells"], _, [], [], s__law_rich, 60, Mini.d__law_rich, PySem.W.mg_of X G a21, .of F21, F21.binds (ps := ["_law_source_here", "_law_most", "_law_cells"]) (fun _ _ _ _ _ _ us hl => match us, hl with | [_, _, _], _ => rfl), .nil, .nil, sc__law_rich, rfl, rfl, rfl, ck__law_rich⟩⟩
    · cases h2
      cases h1
      exact ⟨⟨f22, _, ["_law_script", "_law_source_here", "_law_most"], _, [], [], s__law_world, 60, Mini.d__law_world, PySem.W.mg_of X G a22, .of F22, F22.binds (ps := ["_law_script", "_law_source_here", "_law_most"]) (fun _ _ _ _ _ _ us hl => match us, hl with | [_, _, _], _ => rfl), .nil, .nil, sc__law_world, rfl, rfl, rfl, ck__law_world⟩⟩
    · cases h2
      cases h1
      exact ⟨⟨f23, _, ["_law_model_here", "_law_taken"], _, [], [], s__law_is_version, 60, Mini.d__law_is_version, PySem.W.mg_of X G a23, .of F23, F23.binds (ps := ["_law_model_here", "_law_taken"]) (fun _ _ _ _ _ _ us hl => match us, hl with | [_, _], _ => rfl), .nil, .nil, sc__law_is_version, rfl, rfl, rfl, ck__law_is_version⟩⟩
    · cases h2
      cases h1
      exact ⟨⟨f24, _, ["_law_source_here", "_law_model_here"], _, [], [], s__law_odd, 60, Mini.d__law_odd, PySem.W.mg_of X G a24, .of F24, F24.binds (ps := ["_law_source_here", "_law_model_here"]) (fun _ _ _ _ _ _ us hl => match us, hl with | [_, _], _ => rfl), .nil, .nil, sc__law_odd, rfl, rfl, rfl, ck__law_odd⟩⟩
    · cases h2
      cases h1
      exact ⟨⟨f25, _, ["_law_many"], _, [], [], s__law_subsets, 60, Mini.d__law_subsets, PySem.W.mg_of X G a25, .of F25, F25.binds (ps := ["_law_many"]) (fun _ _ _ _ _ _ us hl => match us, hl with | [_], _ => rfl), .nil, .nil, sc__law_subsets, rfl, rfl, rfl, ck__law_subsets⟩⟩
    · cases h2
      cases h1
      exact ⟨⟨f26, _, ["_law_book_here", "_law_model_here", "_law_asked"], _, [], [], s__law_agrees, 60, Mini.d__law_agrees, PySem.W.mg_of X G a26, .of F26, F26.binds (ps := ["_law_book_here", "_law_model_here", "_law_asked"]) (fun _ _ _ _ _ _ us hl => match us, hl with | [_, _, _], _ => rfl), .nil, .nil, sc__law_agrees, rfl, rfl, rfl, ck__law_agrees⟩⟩
    · cases h2
      cases h1
      exact ⟨⟨f8, _, ["mask"], _, [], [], s_least_number, 60, Mini.d_least_number, PySem.W.mg_of X G a8, .of F8, F8.binds (ps := ["mask"]) (fun _ _ _ _ _ _ us hl => match us, hl with | [_], _ => rfl), .nil, .nil, sc_least_number, rfl, rfl, rfl, ck_least_number⟩⟩
    · cases h2
      cases h1
      exact ⟨⟨f9, _, ["writes", "cells"], _, [], [], s_checked_writes, 60, Mini.d_checked_writes, PySem.W.mg_of X G a9, .of F9, F9.binds (ps := ["writes", "cells"]) (fun _ _ _ _ _ _ us hl => match us, hl with | [_, _], _ => rfl), .nil, .nil, sc_checked_writes, rfl, rfl, rfl, ck_checked_writes⟩⟩
  have hK : ∀ (f n : Nat) (x : Str) (ks : List Str) (fl : List (Option MV)), T.fns[f]? = some x → (f, n, ks, fl) ∈ T.kmodes → KEnt T (Mini.Wd reprPy) K mg f n x ks fl := fun f n x ks fl h1 h2 => by
    exact absurd h2 (by simp [T])
  have hA : ∀ (c f : Nat) (x : Str), (c, f) ∈ T.atts → flds[f]? = some x → ∃ D, ClsAt K c D ∧ Cls K D ∧ NoAttr K D x := fun c f x h1 h2 => by
    simp only [T, List.mem_cons, List.not_mem_nil, or_false] at h1
    rcases h1 with h1 | h1 | h1 | h1 | h1 | h1 | h1 | h1
    · cases h1
      cases h2
      exact ⟨C0, CA0, CC0, n0_0⟩
    · cases h1
      cases h2
      exact ⟨C0, CA0, CC0, n0_1⟩
    · cases h1
      cases h2
      exact ⟨C0, CA0, CC0, n0_2⟩
    · cases h1
      cases h2
      exact ⟨C0, CA0, CC0, n0_3⟩
    · cases h1
      cases h2
      exact ⟨C0, CA0, CC0, n0_4⟩
    · cases h1
      cases h2
      exact ⟨C0, CA0, CC0, n0_5⟩
    · cases h1
      cases h2
      exact ⟨C0, CA0, CC0, n0_6⟩
    · cases h1
      cases h2
      exact ⟨C0, CA0, CC0, n0_7⟩
  have hM : ∀ (c : Nat) (m : Str) (f : Nat) (dl : List MV), (c, m, f, dl) ∈ T.meths → MEnt T (Mini.Wd reprPy) K c m f dl := fun c m f dl h1 => by
    simp only [T, List.mem_cons, List.not_mem_nil, or_false] at h1
    rcases h1 with h1 | h1 | h1 | h1 | h1 | h1
    · cases h1
      exact ⟨⟨C0, f7, _, "Book.__contains__", ["self", "version"], _, [], [], s_Book___contains__, 60, Mini.d_Book___contains__, CA0, CC0, ⟨a7, i7, k7⟩, .of F7, F7.binds (ps := ["self", "version"]) (fun _ _ _ _ _ _ us hl => match us, hl with | [_, _], _ => rfl), .nil, .nil, sc_Book___contains__, rfl, rfl, rfl, ck_Book___contains__⟩⟩
    · cases h1
      exact ⟨⟨C0, f3, _, "Book._members", ["self", "mask"], _, [], [], s_Book__members, 60, Mini.d_Book__members, CA0, CC0, ⟨a3, i3, k3⟩, .of F3, F3.binds (ps := ["self", "mask"]) (fun _ _ _ _ _ _ us hl => match us, hl with | [_, _], _ => rfl), .nil, .nil, sc_Book__members, rfl, rfl, rfl, ck_Book__members⟩⟩
    · cases h1
      exact ⟨⟨C0, f2, _, "Book._new_bars", ["self", "values", "needs", "direct"], _, [], [], s_Book__new_bars, 60, Mini.d_Book__new_bars, CA0, CC0, ⟨a2, i2, k2⟩, .of F2, F2.binds (ps := ["self", "values", "needs", "direct"]) (fun _ _ _ _ _ _ us hl => match us, hl with | [_, _, _, _], _ => rfl), .nil, .nil, sc_Book__new_bars, rfl, rfl, rfl, ck_Book__new_bars⟩⟩
    · cases h1
      exact ⟨⟨C0, f4, _, "Book.check_number", ["self", "number"], _, [], [], s_Book_check_number, 60, Mini.d_Book_check_number, CA0, CC0, ⟨a4, i4, k4⟩, .of F4, F4.binds (ps := ["self", "number"]) (fun _ _ _ _ _ _ us hl => match us, hl with | [_, _], _ => rfl), .nil, .nil, sc_Book_check_number, rfl, rfl, rfl, ck_Book_check_number⟩⟩
    · cases h1
      exact ⟨⟨C0, f6, _, "Book.holds", ["self", "numbers"], _, [], [], s_Book_holds, 60, Mini.d_Book_holds, CA0, CC0, ⟨a6, i6, k6⟩, .of F6, F6.binds (ps := ["self", "numbers"]) (fun _ _ _ _ _ _ us hl => match us, hl with | [_, _], _ => rfl), .nil, .nil, sc_Book_holds, rfl, rfl, rfl, ck_Book_holds⟩⟩
    · cases h1
      exact ⟨⟨C0, f5, _, "Book.mask_of", ["self", "numbers"], _, [], [], s_Book_mask_of, 60, Mini.d_Book_mask_of, CA0, CC0, ⟨a5, i5, k5⟩, .of F5, F5.binds (ps := ["self", "numbers"]) (fun _ _ _ _ _ _ us hl => match us, hl with | [_, _], _ => rfl), .nil, .nil, sc_Book_mask_of, rfl, rfl, rfl, ck_Book_mask_of⟩⟩
  have hKM : ∀ (c : Nat) (m : Str) (f n : Nat) (ks : List Str) (fl : List (Option MV)), (c, m, f, n, ks, fl) ∈ T.kmeths → KMEnt T (Mini.Wd reprPy) K c m f n ks fl := fun c m f n ks fl h1 => by
    simp only [T, List.mem_cons, List.not_mem_nil, or_false] at h1
    · cases h1
      obtain ⟨g, hb⟩ := kb_of (ps := ["self", "writes", "requires", "conflicts", "size"]) F1 2 ["requires", "conflicts", "size"] [] [true, true, true] (by simp) (by simp) fun _ _ _ _ _ _ us mv ws hu hm hw => match us, mv, ws, hu, hm, hw with | [_, _], [], [_, _, _], _, _, _ => rfl
      exact ⟨⟨C0, f1, _, "Book.make_patch", ["self", "writes", "requires", "conflicts", "size"], _, g, _, s_Book_make_patch, 60, Mini.d_Book_make_patch, CA0, CC0, ⟨a1, i1, k1⟩, .ofD F1, hb, (.cons trivial (.cons trivial (.cons trivial .nil))), sc_Book_make_patch, rfl, rfl, rfl, ck_Book_make_patch⟩⟩
  have hMk : ∀ (c f : Nat) (dl : List MV), (c, f, dl) ∈ T.mks → MkEnt T (Mini.Wd reprPy) K mg c f dl := fun c f dl h1 => by
    simp only [T, List.mem_cons, List.not_mem_nil, or_false] at h1
    · cases h1
      exact ⟨⟨C0, f0, _, _, "Book.__init__", ["self", "base"], _, [], [], s_Book___init__, 60, Mini.d_Book___init__, rfl, PySem.W.mg_of X G aC0, CA0, ⟨mk0, a0, i0, kc0⟩, .of F0, F0.binds (ps := ["self", "base"]) (fun _ _ _ _ _ _ us hl => match us, hl with | [_, _], _ => rfl), .nil, .nil, sc_Book___init__, rfl, rfl, rfl, ck_Book___init__⟩⟩
  exact ⟨_, fun s v => .of_eq rfl, fun base _ _ => fn_sound rfl (.of F27) sc_law rfl rfl rfl ck_law (glob_of rfl hz hE hK hA hM hKM hMk 12 11 (by decide))⟩
end Glue
end
open PySem PySem.W PyProof.Rows
set_option maxHeartbeats 0 in
theorem PySem.Challenge.cw_livecopy_k07_what_is_a_version_holds : PySem.Challenge.rw_livecopy_k07_what_is_a_version.Holds := by
  w_on; o_law; k_head; (case hw => w_witness2)
  k_fill
  refine DS.walkG (l := PySem.Challenge.rw_livecopy_k07_what_is_a_version) (n := 63) (k := 12) (fi := 27) (W := Mini.Wd DS.reprPy) (x := "_law_script") rfl (by decide) rfl ⟨rfl, by decide, by decide⟩ (fun w h Y => PySem.W.kIn_of Y) ?F Mini.law_run
  case F =>
    intro w mg fa h KX G hmg
    refine' Glue.all_mk KX G hmg ?aC0 ?pg0 ?hd0 ?po0 ?sa0 ?mk0 ?kc0 ?n0_0 ?n0_1 ?n0_2 ?n0_3 ?n0_4 ?n0_5 ?n0_6 ?n0_7 ?a0 ?i0 ?l0 ?c0 ?k0 ?a1 ?i1 ?l1 ?c1 ?k1 ?q1_size ?a2 ?i2 ?l2 ?c2 ?k2 ?a3 ?i3 ?l3 ?c3 ?k3 ?a4 ?i4 ?l4 ?c4 ?k4 ?a5 ?i5 ?l5 ?c5 ?k5 ?a6 ?i6 ?l6 ?c6 ?k6 ?a7 ?i7 ?l7 ?c7 ?k7 ?a8 ?l8 ?c8 ?k8 ?a9 ?l9 ?c9 ?k9 ?a10 ?l10 ?c10 ?k10 ?a11 ?l11 ?c11 ?k11 ?a12 ?l12 ?c12 ?k12 ?a13 ?l13 ?c13 ?k13 ?a14 ?l14 ?c14 ?k14 ?a15 ?l15 ?c15 ?k15 ?a16 ?l16 ?c16 ?k16 ?a17 ?l17 ?c17 ?k17 ?a18 ?l18 ?c18 ?k18 ?a19 ?l19 ?c19 ?k19 ?a20 ?l20 ?c20 ?k20 ?a21 ?l21 ?c21 ?k21 ?a22 ?l22 ?c22 ?k22 ?a23 ?l23 ?c23 ?k23 ?a24 ?l24 ?c24 ?k24 ?a25 ?l25 ?c25 ?k25 ?a26 ?l26 ?c26 ?k26 ?a27 ?l27 ?c27 ?k27 ?z0 ?z1 ?z2 ?z3 ?z4 ?z5 ?z6 ?z7 ?z8
    (case aC0 => k_is); (case pg0 => k_is); (case hd0 => k_is); (case po0 => k_is); (case sa0 => k_is); (case mk0 => k_is); (case kc0 => k_is); (case n0_0 => k_is); (case n0_1 => k_is); (case n0_2 => k_is); (case n0_3 => k_is); (case n0_4 => k_is); (case n0_5 => k_is); (case n0_6 => k_is); (case n0_7 => k_is); (case a0 => k_is); (case i0 => k_is); (case l0 => k_is); (case c0 => k_is); (case k0 => k_is); (case a1 => k_is); (case i1 => k_is); (case l1 => k_is); (case c1 => k_is); (case k1 => k_is); (case q1_size => k_is); (case a2 => k_is); (case i2 => k_is); (case l2 => k_is); (case c2 => k_is); (case k2 => k_is); (case a3 => k_is); (case i3 => k_is); (case l3 => k_is); (case c3 => k_is); (case k3 => k_is); (case a4 => k_is); (case i4 => k_is); (case l4 => k_is); (case c4 => k_is); (case k4 => k_is); (case a5 => k_is); (case i5 => k_is); (case l5 => k_is); (case c5 => k_is); (case k5 => k_is); (case a6 => k_is); (case i6 => k_is); (case l6 => k_is); (case c6 => k_is); (case k6 => k_is); (case a7 => k_is); (case i7 => k_is); (case l7 => k_is); (case c7 => k_is); (case k7 => k_is); (case a8 => k_is); (case l8 => k_is); (case c8 => k_is); (case k8 => k_is); (case a9 => k_is); (case l9 => k_is); (case c9 => k_is); (case k9 => k_is); (case a10 => k_is); (case l10 => k_is); (case c10 => k_is); (case k10 => k_is); (case a11 => k_is); (case l11 => k_is); (case c11 => k_is); (case k11 => k_is); (case a12 => k_is); (case l12 => k_is); (case c12 => k_is); (case k12 => k_is); (case a13 => k_is); (case l13 => k_is); (case c13 => k_is); (case k13 => k_is); (case a14 => k_is); (case l14 => k_is); (case c14 => k_is); (case k14 => k_is); (case a15 => k_is); (case l15 => k_is); (case c15 => k_is); (case k15 => k_is); (case a16 => k_is); (case l16 => k_is); (case c16 => k_is); (case k16 => k_is); (case a17 => k_is); (case l17 => k_is); (case c17 => k_is); (case k17 => k_is); (case a18 => k_is); (case l18 => k_is); (case c18 => k_is); (case k18 => k_is); (case a19 => k_is); (case l19 => k_is); (case c19 => k_is); (case k19 => k_is); (case a20 => k_is); (case l20 => k_is); (case c20 => k_is); (case k20 => k_is); (case a21 => k_is); (case l21 => k_is); (case c21 => k_is); (case k21 => k_is); (case a22 => k_is); (case l22 => k_is); (case c22 => k_is); (case k22 => k_is); (case a23 => k_is); (case l23 => k_is); (case c23 => k_is); (case k23 => k_is); (case a24 => k_is); (case l24 => k_is); (case c24 => k_is); (case k24 => k_is); (case a25 => k_is); (case l25 => k_is); (case c25 => k_is); (case k25 => k_is); (case a26 => k_is); (case l26 => k_is); (case c26 => k_is); (case k26 => k_is); (case a27 => k_is); (case l27 => k_is); (case c27 => k_is); (case k27 => k_is); (case z0 => k_is); (case z1 => k_is); (case z2 => k_is); (case z3 => k_is); (case z4 => k_is); (case z5 => k_is); (case z6 => k_is); (case z7 => k_is); (case z8 => k_is)
