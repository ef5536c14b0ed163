import PyProof.Rows.All
import Wide.All
import OpenK.AllK
import Wide.FinOn
import PySem.PyData
import PyProof.EqLayable
import HandS.ForMost
import HandS.Exc
import HandS.TryMany
import HandS.ExcOwn
import HandS.Wide
import HandS.Flow
import HandS.Slots
import HandS.SlotsOwn
import HandS.ClsMeth
import HandS.More
import HandS.IsInst
import HandS.Defaults
import HandS.TupAny
import HandS.HeadHook4
import HandS.Head2
import HandS.HeadEnd
import PySem.Challenge.RW_underwords_k01_whole_golds_reckoned_and
set_option Elab.async false
set_option linter.all false
/-! UwCore: the interpreter MI: pure data by value, mutable things in a store, a compact IR. No model in sight but Str and PyData. -/
namespace MI
open PySem (Str PyData)

/-- data -/
inductive D where
  | non | bl (b : Bool) | int (i : Int) | str (s : Str)
  | tup (ds : List D) | lst (ds : List D)
  | ref (i : Nat)
  | ins (c : Nat) (ds : List D)
  | fn (f : Nat) | cls (c : Nat) | ty (n : String)
  deriving Inhabited

/-- what stands in the store -/
inductive SO where
  | lst (ds : List D)
  | obj (c : Nat) (fs : List (Option D))
  | dead

abbrev Store := List SO
abbrev Env := List (Option D)

/-- a result -/
inductive R (α : Type) where
  | ok (a : α) (μ : Store)
  | ex (x : D) (μ : Store)
  | no
def R.bind {α β : Type} : R α → (α → Store → R β) → R β
  | .ok a μ, f => f a μ
  | .ex x μ, _ => .ex x μ
  | .no, _ => .no

/-- a result that no exception may be -/
def noEx : R D → R D
  | .ex _ _ => .no
  | r => r
/-- a truth value -/
def blR : R D → R D
  | .ok (.bl b) μ => .ok (.bl b) μ
  | .ok _ _ => .no
  | .ex _ _ => .no
  | .no => .no

/-- how a statement ends -/
inductive SR where
  | nx (e : Env) (μ : Store) | rt (d : D) (μ : Store) | bk (e : Env) (μ : Store) | ct (e : Env) (μ : Store)
  | ex (x : D) (e : Env) (μ : Store) | no

inductive Op2 where
  | add | sub | mul | fdiv | mod | pow
  deriving DecidableEq
inductive Cp where
  | eq | ne | lt | le | gt | ge
  deriving DecidableEq
inductive Bi where
  | len | abs | max | min | int | bool | isi
  deriving DecidableEq
inductive Bm where
  | count
  deriving DecidableEq

/-- targets of for and of comprehensions -/
inductive TgN where
  | name (i : Nat) | tup (ts : List TgN)

mutual
/-- expressions -/
inductive Ex where
  | no
  | var (i : Nat)
  | lit (d : D)
  | gl (i : Nat)
  | fnv (f : Nat) | clv (c : Nat) | tyv (n : String)
  | bin (op : Op2) (a b : Ex)
  | neg (a : Ex)
  | cmp (op : Cp) (a b : Ex)
  | isN (a : Ex) | notN (a : Ex)
  | and (es : List Ex) | or (es : List Ex) | not (a : Ex)
  | ite (c : Ts) (a b : Ex)
  | call (f : Nat) (as : List Ex)
  | new (c : Nat) (as : List Ex)
  | bcall (b : Bi) (as : List Ex)
  | meth (m : Nat) (o : Ex) (as : List Ex)
  | bmeth (b : Bm) (o : Ex) (as : List Ex)
  | attr (m : Nat) (o : Ex)
  | idx (o i : Ex)
  | tup (es : List Ex) | lst (m : Bool) (es : List Ex)
/-- tests -/
inductive Ts where
  | val (e : Ex) | and (ts : List Ts) | or (ts : List Ts) | not (t : Ts)
end

inductive Sm where
  | no
  | pass
  | ret (e : Ex) | retN
  | expr (e : Ex)
  | asg (i : Nat) (e : Ex)
  | par (i j : Nat) (a b : Ex)
  | par3 (i j l : Nat) (a b c : Ex)
  | unp (ts : TgN) (e : Ex)
  | asgS (o i e : Ex)
  | asgA (m : Nat) (o e : Ex)
  | aug (i : Nat) (op : Op2) (e : Ex)
  | ifs (c : Ts) (a b : List Sm)
  | whl (c : Ts) (b : List Sm)
  | forR (t : Nat) (n : Ex) (b : List Sm)
  | forS (t : TgN) (it : Ex) (b : List Sm)
  | brk | cont

structure Def where
  np : Nat
  ns : Nat
  pure : Bool
  dfl : List D
  body : List Sm
structure Cls where
  /-- attribute id -> slot -/
  slots : List Nat
  init : Nat
  /-- method, property: (name id, def) -/
  meths : List (Nat × Nat)
  props : List (Nat × Nat)
  /-- dunders: name id of __add__, .. are looked up in meths -/
structure Prog where
  /-- turns of a while loop at most -/
  fuel : Nat
  defs : List Def
  clss : List Cls
  glo : List D
  /-- ids of the dunder names -/
  nAdd : Nat
  nSub : Nat
  nMul : Nat
  nNeg : Nat
  nEq : Nat
  nBool : Nat

mutual
/-- no reference at n or above -/
def D.lt (n : Nat) : D → Bool
  | .tup ds => D.ltL n ds
  | .lst ds => D.ltL n ds
  | .ins _ ds => D.ltL n ds
  | .ref i => Nat.blt i n
  | _ => true
def D.ltL (n : Nat) : List D → Bool
  | [] => true
  | d :: r => D.lt n d && D.ltL n r
end

mutual
/-- plain data as the model's equality sees it -/
def D.py : D → Option PyData
  | .non => some .none
  | .bl b => some (.bool b)
  | .int i => some (.int i)
  | .str s => some (.str s)
  | .tup ds => (D.pyL ds).map .tuple
  | .lst ds => (D.pyL ds).map .list
  | _ => none
def D.pyL : List D → Option (List PyData)
  | [] => some []
  | d :: r => (D.py d).bind fun x => (D.pyL r).map fun y => x :: y
end
/-- == of plain data -/
def deq (x y : D) : Option Bool := match x.py, y.py with
  | some a, some b => if PySem.SeqAt.shaped a && PySem.SeqAt.shaped b then some (PyData.eqv a b) else none
  | _, _ => none

def truth (μ : Store) : D → Option Bool
  | .non => some false
  | .bl b => some b
  | .int i => some (i != 0)
  | .str s => if s.length ≤ 1000000 then some ((s.length : Int) != 0) else none
  | .tup ds => some (!ds.isEmpty)
  | .lst ds => some (!ds.isEmpty)
  | .ref i => match μ[i]? with
    | some (.lst ds) => some (!ds.isEmpty)
    | _ => none
  | _ => none

/-- bounds of great numbers -/
def mulOk (i j : Int) : Bool := Nat.blt (i.natAbs.log2 + j.natAbs.log2) 100000
def divOk (j : Int) : Bool := decide (0 < j) && Nat.blt j.natAbs.log2 8000
def powOk (i j : Int) : Bool := decide (0 ≤ j) && Nat.blt ((i.natAbs.log2 + 1) * j.toNat) 100000

def opI (op : Op2) (i j : Int) : Option Int := match op with
  | .add => some (i + j)
  | .sub => some (i - j)
  | .mul => if mulOk i j then some (i * j) else none
  | .fdiv => if divOk j then some (i / j) else none
  | .mod => if decide (0 < j) then some (i % j) else none
  | .pow => if powOk i j then some (i ^ j.toNat) else none

def ix (n : Nat) (i : Int) : Option Nat :=
  if 0 ≤ i then (if i < n then some i.toNat else none) else if -(n : Int) ≤ i then some (i + n).toNat else none
/-- the built-in types that isinstance is asked of -/
def tyNames : List String := ["int", "bool", "str", "tuple", "list", "dict"]

abbrev Call := Nat → List D → Store → R D

def ofO {α : Type} (μ : Store) : Option α → R α
  | some a => .ok a μ
  | none => .no

section
variable (P : Prog) (cf : Nat → Call) (b : Nat)

def methOf (c m : Nat) : Option Nat := (P.clss[c]?).bind fun k => k.meths.lookup m
def propOf (c m : Nat) : Option Nat := (P.clss[c]?).bind fun k => k.props.lookup m
def slotOf (c m : Nat) : Option Nat := (P.clss[c]?).bind fun k => k.slots.findIdx? (· == m)

def dunder : Op2 → Option Nat
  | .add => some P.nAdd
  | .sub => some P.nSub
  | .mul => some P.nMul
  | _ => none

def op2 (op : Op2) (x y : D) (μ : Store) : R D := match x, y with
  | .int i, .int j => ofO μ ((opI op i j).map .int)
  | .ins c _, .ins c' _ => if Nat.beq c c' then (match (dunder P op).bind (methOf P c) with
    | some f => noEx (cf b f [x, y] μ)
    | none => .no) else .no
  | _, _ => .no

def cmpI : Cp → Int → Int → Bool
  | .eq, i, j => decide (i = j)
  | .ne, i, j => !decide (i = j)
  | .lt, i, j => decide (i < j)
  | .le, i, j => decide (i ≤ j)
  | .gt, i, j => decide (j < i)
  | .ge, i, j => decide (j ≤ i)

def notR : R D → R D
  | .ok (.bl b) μ => .ok (.bl (!b)) μ
  | .ok _ _ => .no
  | .ex _ _ => .no
  | .no => .no

/-- the built-in type of plain data -/
def tyOf : D → Option String
  | .non => some "NoneType"
  | .bl _ => some "bool"
  | .int _ => some "int"
  | .str _ => some "str"
  | .tup _ => some "tuple"
  | .lst _ => some "list"
  | _ => none
def isNonD : D → Bool
  | .non => true
  | _ => false
/-- may the right side of a comparison be so -/
def rightOk : D → Bool
  | .ins c _ => (P.clss[c]?).isSome
  | y => (tyOf y).isSome
/-- == and != by an own __eq__ -/
def cmpO (op : Cp) (c : Nat) (x y : D) (μ : Store) : R D :=
  if rightOk P y then (match methOf P c P.nEq with
    | some f => (match op with
      | .eq => blR (cf b f [x, y] μ)
      | .ne => notR (cf b f [x, y] μ)
      | _ => .no)
    | none => .no) else .no
def cmp2 (op : Cp) (x y : D) (μ : Store) : R D := match x with
  | .ins c _ => cmpO P cf b op c x y μ
  | _ => match x, y with
    | .int i, .int j => .ok (.bl (cmpI op i j)) μ
    | _, _ => match op with
      | .eq => ofO μ ((deq x y).map .bl)
      | .ne => ofO μ ((deq x y).map fun b => .bl (!b))
      | _ => .no

def allSome : List (Option D) → Option (List D)
  | [] => some []
  | some d :: r => (allSome r).map fun l => d :: l
  | none :: _ => none

/-- C(..) -/
def new (c : Nat) (as : List D) (μ : Store) : R D := match P.clss[c]? with
  | none => .no
  | some k => match cf μ.length k.init (.ref μ.length :: as) (μ ++ [.obj c (List.replicate k.slots.length none)]) with
    | .ok .non μ' => (match μ'[μ.length]? with
      | some (.obj c' fs) => (match allSome fs with
        | some ds => if Nat.beq c' c && !ds.isEmpty then
            (if Nat.beq μ'.length (μ.length + 1) && D.ltL μ.length ds then .ok (.ins c ds) μ else .ok (.ins c ds) (μ'.set μ.length .dead)) else .no
        | none => .no)
      | _ => .no)
    | .ok _ _ => .no
    | .ex x μ' => .ex x μ'
    | .no => .no

/-- the built-in type, lists of the store too -/
def tyOfS (μ : Store) (x : D) : Option String := match x with
  | .ref i => (match μ[i]? with
    | some (.lst _) => some "list"
    | _ => none)
  | x => tyOf x
def isTy (x : D) (n : String) (μ : Store) : Option Bool := if tyNames.contains n then (match x with
  | .ins c _ => (P.clss[c]?).map fun _ => false
  | x => (tyOfS μ x).map fun t => t == n || (t == "bool" && n == "int")) else none
def isCl (x : D) (c : Nat) (μ : Store) : Option Bool := (P.clss[c]?).bind fun _ => match x with
  | .ins d _ => (P.clss[d]?).map fun _ => Nat.beq d c
  | x => (tyOfS μ x).map fun _ => false

def lenOf (μ : Store) : D → Option Nat
  | .tup ds => some ds.length
  | .lst ds => some ds.length
  | .str s => if s.length ≤ 1000000 then some s.length else none
  | .ref i => match μ[i]? with
    | some (.lst ds) => some ds.length
    | _ => none
  | _ => none

def items (μ : Store) : D → Option (List D)
  | .tup ds => some ds
  | .lst ds => some ds
  | .ref i => match μ[i]? with
    | some (.lst ds) => some ds
    | _ => none
  | _ => none

def biC (f : Bi) (as : List D) (μ : Store) : R D := match f, as with
  | .len, [x] => ofO μ ((lenOf μ x).map fun (n : Nat) => D.int (Int.ofNat n))
  | .abs, [.int i] => .ok (.int (if i < 0 then -i else i)) μ
  | .max, [.int i, .int j] => .ok (.int (if j > i then j else i)) μ
  | .min, [.int i, .int j] => .ok (.int (if j < i then j else i)) μ
  | .int, [.int i] => .ok (.int i) μ
  | .int, [.bl k] => .ok (.int (if k then 1 else 0)) μ
  | .bool, [.int i] => .ok (.bl (i != 0)) μ
  | .bool, [.bl k] => .ok (.bl k) μ
  | .bool, [.ins c ds] => (match methOf P c P.nBool with
    | some f => blR (cf b f [.ins c ds] μ)
    | none => .no)
  | .isi, [x, .ty n] => ofO μ ((isTy P x n μ).map .bl)
  | .isi, [x, .cls c] => ofO μ ((isCl P x c μ).map .bl)
  | _, _ => .no

/-- == of flat data -/
def flatD : D → Bool
  | .non => true
  | .bl _ => true
  | .int _ => true
  | .str _ => true
  | _ => false
def eqF : D → D → Bool
  | .non, .non => true
  | .bl a, .bl b => a == b
  | .bl a, .int b => (if a then 1 else 0) == b
  | .int a, .bl b => a == (if b then 1 else 0)
  | .int a, .int b => a == b
  | .str a, .str b => a == b
  | _, _ => false
def bmT : Bm → D → Bool
  | .count, .lst _ => true
  | _, _ => false
def bmC (f : Bm) (o : D) (as : List D) (μ : Store) : R D := match f, as with
  | .count, [x] => (match o with
    | .lst ds => if flatD x && ds.all flatD then .ok (.int (Int.ofNat (ds.countP fun y => eqF y x))) μ else .no
    | _ => .no)
  | _, _ => .no

def attrC (m : Nat) (o : D) (μ : Store) : R D := match o with
  | .ins c ds => (match slotOf P c m with
    | some i => ofO μ ds[i]?
    | none => (match propOf P c m with
      | some f => noEx (cf b f [o] μ)
      | none => .no))
  | .ref j => (match μ[j]? with
    | some (.obj c fs) => (match slotOf P c m with
      | some i => ofO μ (fs[i]?).join
      | none => .no)
    | _ => .no)
  | _ => .no

def idxC (o i : D) (μ : Store) : R D := match i with
  | .int k => ofO μ ((items μ o).bind fun ds => (ix ds.length k).bind fun j => ds[j]?)
  | _ => .no

set_option maxHeartbeats 4000000 in
mutual
def evE : Ex → Env → Store → R D
  | .no, _, _ => .no
  | .var i, e, μ => ofO μ (e[i]?).join
  | .lit d, _, μ => .ok d μ
  | .gl i, _, μ => ofO μ P.glo[i]?
  | .fnv f, _, μ => .ok (.fn f) μ
  | .clv c, _, μ => .ok (.cls c) μ
  | .tyv n, _, μ => .ok (.ty n) μ
  | .bin op x y, e, μ => (evE x e μ).bind fun u μ1 => (evE y e μ1).bind fun v μ2 => op2 P cf b op u v μ2
  | .neg x, e, μ => (evE x e μ).bind fun u μ1 => match u with
    | .int i => .ok (.int (-i)) μ1
    | .ins c _ => (match methOf P c P.nNeg with
      | some f => noEx (cf b f [u] μ1)
      | none => .no)
    | _ => .no
  | .cmp op x y, e, μ => (evE x e μ).bind fun u μ1 => (evE y e μ1).bind fun v μ2 => cmp2 P cf b op u v μ2
  | .isN x, e, μ => (evE x e μ).bind fun u μ1 => .ok (.bl (isNonD u)) μ1
  | .notN x, e, μ => (evE x e μ).bind fun u μ1 => .ok (.bl (!isNonD u)) μ1
  | .and es, e, μ => evAnd es e μ
  | .or es, e, μ => evOr es e μ
  | .not x, e, μ => (evE x e μ).bind fun u μ1 => ofO μ1 ((truth μ1 u).map fun k => .bl (!k))
  | .ite c x y, e, μ => (evT c e μ).bind fun k μ1 => bif k then evE x e μ1 else evE y e μ1
  | .call f as, e, μ => (evL as e μ).bind fun vs μ1 => cf b f vs μ1
  | .new c as, e, μ => (evL as e μ).bind fun vs μ1 => new P cf c vs μ1
  | .bcall f as, e, μ => (evL as e μ).bind fun vs μ1 => biC P cf b f vs μ1
  | .meth m o as, e, μ => (evE o e μ).bind fun u μ1 => match u with
    | .ins c _ => (match methOf P c m with
      | some f => (evL as e μ1).bind fun vs μ2 => cf b f (u :: vs) μ2
      | none => .no)
    | _ => .no
  | .bmeth f o as, e, μ => (evE o e μ).bind fun u μ1 => bif bmT f u then (evL as e μ1).bind fun vs μ2 => bmC f u vs μ2 else .no
  | .attr m o, e, μ => (evE o e μ).bind fun u μ1 => attrC P cf b m u μ1
  | .idx o i, e, μ => (evE o e μ).bind fun u μ1 => (evE i e μ1).bind fun v μ2 => idxC u v μ2
  | .tup es, e, μ => (evL es e μ).bind fun vs μ1 => if Nat.ble vs.length 1000000 then .ok (.tup vs) μ1 else .no
  | .lst m es, e, μ => (evL es e μ).bind fun vs μ1 => if Nat.ble vs.length 1000000 then (bif m then .ok (.ref μ1.length) (μ1 ++ [.lst vs]) else .ok (.lst vs) μ1) else .no
def evL : List Ex → Env → Store → R (List D)
  | [], _, μ => .ok [] μ
  | x :: r, e, μ => (evE x e μ).bind fun u μ1 => (evL r e μ1).bind fun vs μ2 => .ok (u :: vs) μ2
def evAnd : List Ex → Env → Store → R D
  | [], _, _ => .no
  | x :: r, e, μ => (evE x e μ).bind fun u μ1 => match r with
    | [] => .ok u μ1
    | _ :: _ => (ofO μ1 (truth μ1 u)).bind fun k μ2 => bif k then evAnd r e μ2 else .ok u μ2
def evOr : List Ex → Env → Store → R D
  | [], _, _ => .no
  | x :: r, e, μ => (evE x e μ).bind fun u μ1 => match r with
    | [] => .ok u μ1
    | _ :: _ => (ofO μ1 (truth μ1 u)).bind fun k μ2 => bif k then .ok u μ2 else evOr r e μ2
def evT : Ts → Env → Store → R Bool
  | .val x, e, μ => (evE x e μ).bind fun u μ1 => ofO μ1 (truth μ1 u)
  | .and es, e, μ => evTA es e μ
  | .or es, e, μ => evTO es e μ
  | .not x, e, μ => (evT x e μ).bind fun k μ1 => .ok (!k) μ1
def evTA : List Ts → Env → Store → R Bool
  | [], _, _ => .no
  | x :: r, e, μ => (evT x e μ).bind fun k μ1 => match r with
    | [] => .ok k μ1
    | _ :: _ => bif k then evTA r e μ1 else .ok false μ1
def evTO : List Ts → Env → Store → R Bool
  | [], _, _ => .no
  | x :: r, e, μ => (evT x e μ).bind fun k μ1 => match r with
    | [] => .ok k μ1
    | _ :: _ => bif k then .ok true μ1 else evTO r e μ1
end

def lenT : List TgN → Nat
  | [] => 0
  | _ :: r => lenT r + 1
mutual
/-- the targets of a for -/
def setT : TgN → D → Env → Option Env
  | .name i, d, e => if Nat.blt i e.length then some (e.set i (some d)) else none
  | .tup ts, d, e => match d with
    | .tup ds => if Nat.beq ds.length (lenT ts) then setTs ts ds e else none
    | _ => none
def setTs : List TgN → List D → Env → Option Env
  | [], _, e => some e
  | t :: r, ds, e => match ds with
    | [] => none
    | d :: dr => (setT t d e).bind fun e1 => setTs r dr e1
end

def whileN (t : Env → Store → R Bool) (f : Env → Store → SR) : Nat → Env → Store → SR
  | 0, _, _ => .no
  | n + 1, e, μ => match t e μ with
    | .ok true μ1 => (match f e μ1 with
      | .nx e2 μ2 => whileN t f n e2 μ2
      | .ct e2 μ2 => whileN t f n e2 μ2
      | .bk e2 μ2 => .nx e2 μ2
      | r => r)
    | .ok false μ1 => .nx e μ1
    | .ex x μ1 => .ex x e μ1
    | .no => .no
/-- for over lo, lo + 1, .. -/
def forN (i : Nat) (f : Env → Store → SR) : Nat → Int → Env → Store → SR
  | 0, _, e, μ => .nx e μ
  | n + 1, lo, e, μ => if Nat.blt i e.length then (match f (e.set i (some (.int lo))) μ with
      | .nx e2 μ2 => forN i f n (lo + 1) e2 μ2
      | .ct e2 μ2 => forN i f n (lo + 1) e2 μ2
      | .bk e2 μ2 => .nx e2 μ2
      | r => r) else .no
/-- for over items -/
def forD (t : TgN) (f : Env → Store → SR) : List D → Env → Store → SR
  | [], e, μ => .nx e μ
  | d :: r, e, μ => match setT t d e with
    | none => .no
    | some e1 => (match f e1 μ with
      | .nx e2 μ2 => forD t f r e2 μ2
      | .ct e2 μ2 => forD t f r e2 μ2
      | .bk e2 μ2 => .nx e2 μ2
      | r => r)

def R.go {α : Type} : R α → Env → (α → Store → SR) → SR
  | .ok a μ, _, f => f a μ
  | .ex x μ, e, _ => .ex x e μ
  | .no, _, _ => .no

def setA (o i v : D) (e : Env) (μ : Store) : SR := match o, i with
  | .ref j, .int k => if Nat.ble b j then (match μ[j]? with
      | some (.lst ds) => (match ix ds.length k with
        | some n => .nx e (μ.set j (.lst (ds.set n v)))
        | none => .no)
      | _ => .no) else .no
  | _, _ => .no
def setF (m : Nat) (o v : D) (e : Env) (μ : Store) : SR := match o with
  | .ref j => if Nat.ble b j then (match μ[j]? with
      | some (.obj c fs) => (match slotOf P c m with
        | some i => if Nat.blt i fs.length then .nx e (μ.set j (.obj c (fs.set i (some v)))) else .no
        | none => .no)
      | _ => .no) else .no
  | _ => .no
def augC (op : Op2) (x y : D) (μ : Store) : R D := match x, y with
  | .int i, .int j => (match op with
    | .add => .ok (.int (i + j)) μ
    | .sub => .ok (.int (i - j)) μ
    | _ => .no)
  | _, _ => .no
def setV (i : Nat) (d : D) (e : Env) (μ : Store) : SR := if Nat.blt i e.length then .nx (e.set i (some d)) μ else .no

set_option maxHeartbeats 4000000 in
mutual
def exS : Sm → Env → Store → SR
  | .no, _, _ => .no
  | .pass, e, μ => .nx e μ
  | .ret x, e, μ => (evE P cf b x e μ).go e fun u μ1 => .rt u μ1
  | .retN, _, μ => .rt .non μ
  | .expr x, e, μ => (evE P cf b x e μ).go e fun _ μ1 => .nx e μ1
  | .asg i x, e, μ => (evE P cf b x e μ).go e fun u μ1 => setV i u e μ1
  | .par i j x y, e, μ => (evE P cf b x e μ).go e fun u μ1 => (evE P cf b y e μ1).go e fun v μ2 =>
      if Nat.blt i e.length && Nat.blt j e.length then .nx ((e.set i (some u)).set j (some v)) μ2 else .no
  | .par3 i j l x y z, e, μ => (evE P cf b x e μ).go e fun u μ1 => (evE P cf b y e μ1).go e fun v μ2 => (evE P cf b z e μ2).go e fun w μ3 =>
      if Nat.blt i e.length && Nat.blt j e.length && Nat.blt l e.length then .nx (((e.set i (some u)).set j (some v)).set l (some w)) μ3 else .no
  | .unp ts x, e, μ => (evE P cf b x e μ).go e fun u μ1 => match setT ts u e with
    | some e1 => .nx e1 μ1
    | none => .no
  | .asgS o i x, e, μ => (evE P cf b x e μ).go e fun v μ1 => (evE P cf b o e μ1).go e fun u μ2 => (evE P cf b i e μ2).go e fun k μ3 => setA b u k v e μ3
  | .asgA m o x, e, μ => (evE P cf b x e μ).go e fun v μ1 => (evE P cf b o e μ1).go e fun u μ2 => setF P b m u v e μ2
  | .aug i op x, e, μ => match (e[i]?).join with
    | none => .no
    | some u => (evE P cf b x e μ).go e fun v μ1 => (augC op u v μ1).go e fun w μ2 => setV i w e μ2
  | .ifs c x y, e, μ => (evT P cf b c e μ).go e fun k μ1 => bif k then exL x e μ1 else exL y e μ1
  | .whl c x, e, μ => whileN (evT P cf b c) (exL x) P.fuel e μ
  | .forR i n x, e, μ => (evE P cf b n e μ).go e fun u μ1 => match u with
    | .int k => if decide (k < 4611686018427387904) && decide (-4611686018427387904 ≤ k) then forN i (exL x) k.toNat 0 e μ1 else .no
    | _ => .no
  | .forS t it x, e, μ => (evE P cf b it e μ).go e fun u μ1 => match u with
    | .tup ds => forD t (exL x) ds e μ1
    | .lst ds => forD t (exL x) ds e μ1
    | _ => .no
  | .brk, e, μ => .bk e μ
  | .cont, e, μ => .ct e μ
def exL : List Sm → Env → Store → SR
  | [], e, μ => .nx e μ
  | x :: r, e, μ => match exS x e μ with
    | .nx e1 μ1 => exL r e1 μ1
    | q => q
end
end

/-- the values of all parameters: defaults fill up -/
def fill (d : Def) (as : List D) : Option (List D) :=
  if Nat.ble as.length d.np && Nat.ble (d.np - as.length) d.dfl.length then some (as ++ d.dfl.drop (d.dfl.length - (d.np - as.length))) else none
/-- what is left of a call: a pure def leaves the store as it was -/
def done (pure : Bool) (μ : Store) (v : D) (μ' : Store) : R D := if pure && D.lt μ.length v then .ok v μ else .ok v μ'
def doneX (pure : Bool) (μ : Store) (v : D) (μ' : Store) : R D := if pure && D.lt μ.length v then .ex v μ else .ex v μ'
def callN (P : Prog) : Nat → Nat → Call
  | 0, _, _, _, _ => .no
  | k + 1, b, f, as, μ => match P.defs[f]? with
    | none => .no
    | some d => match fill d as with
      | none => .no
      | some vs => match exL P (callN P k) (bif d.pure then μ.length else b) d.body (vs.map some ++ List.replicate (d.ns - d.np) none) μ with
        | .rt v μ1 => done d.pure μ v μ1
        | .nx _ μ1 => done d.pure μ .non μ1
        | .ex x _ μ1 => doneX d.pure μ x μ1
        | _ => .no
end MI

set_option maxRecDepth 100000
set_option maxHeartbeats 1000000
/-! UwSim: how the interpreter's data stand in the abstract heap. -/
namespace MS
open PySem PySem.Spec PyProof.Rows L2
open MI (D SO Store R SR Ex Ts Sm TgN)

/-- where a store's entry stands: its address, its dict's (an instance's) -/
structure LE where
  a : Addr
  dx : Addr
abbrev Loc := List LE

/-- the addresses that an entry owns -/
def own : SO → LE → Addr → Prop
  | .lst _, p, x => x = p.a
  | .obj _ _, p, x => x = p.a ∨ x = p.dx
  | .dead, _, _ => False
/-- owned by an entry at b or above -/
def Own (μ : Store) (loc : Loc) (b : Nat) (x : Addr) : Prop := ∃ i so p, b ≤ i ∧ μ[i]? = some so ∧ loc[i]? = some p ∧ own so p x

/-- the parts of SqT, SqL that lean on the written part -/
def KTup (K : PySem.W.Frag) (a : Addr) (xs : List V) : Prop := ∃ (o : Obj) (its : Array Value) (n : Nat), K.lookup a = some o ∧ o.cls = .type "tuple" ∧ o.data = .seq its n ∧ its.size ≤ sizeLine ∧ Vals xs its.toList
def KLst (K : PySem.W.Frag) (a : Addr) (xs : List V) : Prop := ∃ (o : Obj) (its : Array Value) (n : Nat), K.lookup a = some o ∧ o.cls = .type "list" ∧ o.dict = none ∧ o.data = .seq its n ∧ its.size ≤ sizeLine ∧ Vals xs its.toList

/-- the fixed addresses: the defs', the classes' -/
structure Ad where
  K : PySem.W.Frag
  fa : Nat → Addr
  ca : Nat → Addr

mutual
/-- a datum and a value -/
inductive RD (A : Ad) (loc : Loc) (Z : Addr → Prop) (H : Hp) : D → V → Prop
  | non : RD A loc Z H .non .non
  | bl (b : Bool) : RD A loc Z H (.bl b) (.bl b)
  | int (i : Int) : RD A loc Z H (.int i) (.int i)
  | str (s : Str) : RD A loc Z H (.str s) (.str s)
  | tupH {a : Addr} {xs : List V} {ds : List D} (h : Rd H a (.tup xs)) (z : ¬ Z a) (r : RDs A loc Z H ds xs) : RD A loc Z H (.tup ds) (.ref a)
  | tupK {a : Addr} {xs : List V} {ds : List D} (h : KTup A.K a xs) (r : RDs A loc Z H ds xs) : RD A loc Z H (.tup ds) (.ref a)
  | lstH {a : Addr} {xs : List V} {ds : List D} (h : Rd H a (.lst xs)) (z : ¬ Z a) (r : RDs A loc Z H ds xs) : RD A loc Z H (.lst ds) (.ref a)
  | lstK {a : Addr} {xs : List V} {ds : List D} (h : KLst A.K a xs) (r : RDs A loc Z H ds xs) : RD A loc Z H (.lst ds) (.ref a)
  | ref {i : Nat} {p : LE} (h : loc[i]? = some p) : RD A loc Z H (.ref i) (.ref p.a)
  | ins {c : Nat} {a dx : Addr} {xs : List V} {ds : List D} (h : H a = some (SlX.SlO a (A.ca c) dx (xs.map some))) (hd : H dx = some (.xd [])) (z : ¬ Z a) (zd : ¬ Z dx) (r : RDs A loc Z H ds xs) : RD A loc Z H (.ins c ds) (.ref a)
  | fn (f : Nat) : RD A loc Z H (.fn f) (.ref (A.fa f))
  | cls (c : Nat) : RD A loc Z H (.cls c) (.ref (A.ca c))
  | ty (n : String) : RD A loc Z H (.ty n) (.ty n)
inductive RDs (A : Ad) (loc : Loc) (Z : Addr → Prop) (H : Hp) : List D → List V → Prop
  | nil : RDs A loc Z H [] []
  | cons {d : D} {v : V} {ds : List D} {vs : List V} (h : RD A loc Z H d v) (t : RDs A loc Z H ds vs) : RDs A loc Z H (d :: ds) (v :: vs)
end

section
variable {A : Ad} {loc loc' : Loc} {Z Z' : Addr → Prop} {H H' : Hp}
theorem RDs.length : ∀ {ds : List D} {vs : List V}, RDs A loc Z H ds vs → ds.length = vs.length
  | _, _, .nil => rfl
  | _, _, .cons _ t => congrArg Nat.succ t.length
theorem RDs.get : ∀ {ds : List D} {vs : List V} {i : Nat} {d : D}, RDs A loc Z H ds vs → ds[i]? = some d → ∃ v, vs[i]? = some v ∧ RD A loc Z H d v
  | _, _, _, _, .nil, e => by simp at e
  | _, _, 0, _, .cons r _, e => by simp at e; subst e; exact ⟨_, rfl, r⟩
  | _, _, i + 1, d, .cons _ t, e => by
    obtain ⟨v, h1, h2⟩ := RDs.get (i := i) (d := d) t (by simpa using e)
    exact ⟨v, by simpa using h1, h2⟩
theorem RDs.append : ∀ {ds es : List D} {vs ws : List V}, RDs A loc Z H ds vs → RDs A loc Z H es ws → RDs A loc Z H (ds ++ es) (vs ++ ws)
  | _, _, _, _, .nil, s => s
  | _, _, _, _, .cons r t, s => .cons r (RDs.append t s)
theorem RDs.set {d : D} {v : V} (r : RD A loc Z H d v) : ∀ {ds : List D} {vs : List V} (i : Nat), RDs A loc Z H ds vs → RDs A loc Z H (ds.set i d) (vs.set i v)
  | _, _, _, .nil => .nil
  | _, _, 0, .cons _ t => .cons r t
  | _, _, i + 1, .cons q t => .cons q (RDs.set r i t)
theorem RDs.take : ∀ {ds : List D} {vs : List V} (n : Nat), RDs A loc Z H ds vs → RDs A loc Z H (ds.take n) (vs.take n)
  | _, _, 0, _ => .nil
  | _, _, _ + 1, .nil => .nil
  | _, _, n + 1, .cons r t => .cons r (RDs.take n t)
theorem RDs.drop : ∀ {ds : List D} {vs : List V} (n : Nat), RDs A loc Z H ds vs → RDs A loc Z H (ds.drop n) (vs.drop n)
  | _, _, 0, r => r
  | _, _, _ + 1, .nil => .nil
  | _, _, n + 1, .cons _ t => RDs.drop n t

/-- what a change of heap must keep of data -/
structure Keeps (loc loc' : Loc) (Z Z' : Addr → Prop) (H H' : Hp) : Prop where
  pre : ∀ (i : Nat) p, loc[i]? = some p → loc'[i]? = some p
  keep : ∀ a o, H a = some o → ¬ Z a → H' a = some o
  free : ∀ a o, H a = some o → ¬ Z a → ¬ Z' a
theorem Keeps.rd {a : Addr} {u : HO} (k : Keeps loc loc' Z Z' H H') (h : Rd H a u) (z : ¬ Z a) : Rd H' a u ∧ ¬ Z' a := by
  rcases h with h | ⟨o, h⟩
  · exact ⟨.inl (k.keep _ _ h z), k.free _ _ h z⟩
  · exact ⟨.inr ⟨o, k.keep _ _ h z⟩, k.free _ _ h z⟩
mutual
theorem RD.mono (k : Keeps loc loc' Z Z' H H') : ∀ {d : D} {v : V}, RD A loc Z H d v → RD A loc' Z' H' d v
  | _, _, .non => .non
  | _, _, .bl b => .bl b
  | _, _, .int i => .int i
  | _, _, .str s => .str s
  | _, _, .tupH h z r => .tupH (k.rd h z).1 (k.rd h z).2 (RDs.mono k r)
  | _, _, .tupK h r => .tupK h (RDs.mono k r)
  | _, _, .lstH h z r => .lstH (k.rd h z).1 (k.rd h z).2 (RDs.mono k r)
  | _, _, .lstK h r => .lstK h (RDs.mono k r)
  | _, _, .ref h => .ref (k.pre _ _ h)
  | _, _, .ins h hd z zd r => .ins (k.keep _ _ h z) (k.keep _ _ hd zd) (k.free _ _ h z) (k.free _ _ hd zd) (RDs.mono k r)
  | _, _, .fn f => .fn f
  | _, _, .cls c => .cls c
  | _, _, .ty n => .ty n
theorem RDs.mono (k : Keeps loc loc' Z Z' H H') : ∀ {ds : List D} {vs : List V}, RDs A loc Z H ds vs → RDs A loc' Z' H' ds vs
  | _, _, .nil => .nil
  | _, _, .cons h t => .cons (RD.mono k h) (RDs.mono k t)
end
theorem RD.sqT {ds : List D} {v : V} (r : RD A loc Z H (.tup ds) v) : ∃ a xs, v = .ref a ∧ SqT A.K H a xs ∧ RDs A loc Z H ds xs := by
  cases r with
  | tupH h z r => exact ⟨_, _, rfl, .inl h, r⟩
  | tupK h r => exact ⟨_, _, rfl, .inr h, r⟩
theorem RD.sqL {ds : List D} {v : V} (r : RD A loc Z H (.lst ds) v) : ∃ a xs, v = .ref a ∧ SqL A.K H a xs ∧ RDs A loc Z H ds xs := by
  cases r with
  | lstH h z r => exact ⟨_, _, rfl, .inl h, r⟩
  | lstK h r => exact ⟨_, _, rfl, .inr h, r⟩
end

/-- an instance's slots -/
def RDO (A : Ad) (loc : Loc) (Z : Addr → Prop) (H : Hp) (fs : List (Option D)) (vs : List (Option V)) : Prop :=
  vs.length ≤ fs.length ∧ ∀ (k : Nat) d, fs[k]? = some (some d) → ∃ v, vs[k]? = some (some v) ∧ RD A loc Z H d v
/-- an entry and the heap -/
def RS (A : Ad) (loc : Loc) (Z : Addr → Prop) (H : Hp) : SO → LE → Prop
  | .lst ds, p => ∃ xs, H p.a = some (.lst xs) ∧ RDs A loc Z H ds xs
  | .obj c fs, p => p.dx ≠ p.a ∧ ∃ vs, SlX.Slt H p.a (A.ca c) p.dx vs ∧ (∃ o, H p.dx = some o) ∧ RDO A loc Z H fs vs
  | .dead, _ => True
/-- the store and the heap -/
structure Sim (A : Ad) (μ : Store) (loc : Loc) (H : Hp) : Prop where
  len : loc.length = μ.length
  inj : ∀ (i j : Nat) so so' p p' x, i ≠ j → μ[i]? = some so → μ[j]? = some so' → loc[i]? = some p → loc[j]? = some p' → own so p x → own so' p' x → False
  rel : ∀ (i : Nat) so p, μ[i]? = some so → loc[i]? = some p → RS A loc (Own μ loc 0) H so p

section
variable {A : Ad} {μ μ' μ2 : Store} {loc loc' loc2 : Loc} {H H' H2 : Hp} {b : Nat}
theorem Sim.there (S : Sim A μ loc H) {x : Addr} (h : Own μ loc b x) : ∃ o, H x = some o := by
  obtain ⟨i, so, p, _, e1, e2, e3⟩ := h
  have r := S.rel i so p e1 e2
  cases so with
  | lst ds =>
    obtain ⟨xs, h, _⟩ := r
    have e3 : x = p.a := e3
    exact ⟨_, by rw [e3]; exact h⟩
  | obj c fs =>
    obtain ⟨_, vs, h, hd, _⟩ := r
    rcases e3 with e3 | e3
    · rcases h with ⟨h, _⟩ | ⟨h, _⟩
      · exact ⟨_, by rw [e3]; exact h⟩
      · exact ⟨_, by rw [e3]; exact h⟩
    · rw [e3]; exact hd
  | dead => exact e3.elim
theorem Own.mono {c : Nat} (h : Own μ loc b x) (hc : c ≤ b) : Own μ loc c x := by
  obtain ⟨i, so, p, e0, e⟩ := h
  exact ⟨i, so, p, Nat.le_trans hc e0, e⟩

/-- a step: from b on the store may have turned -/
structure Stp (b : Nat) (μ : Store) (loc : Loc) (H : Hp) (μ' : Store) (loc' : Loc) (H' : Hp) : Prop where
  pre : ∀ (i : Nat) p, loc[i]? = some p → loc'[i]? = some p
  len : μ.length ≤ μ'.length
  low : ∀ i, i < b → μ'[i]? = μ[i]?
  keep : ∀ a o, H a = some o → ¬ Own μ loc b a → H' a = some o
  there : ∀ a o, H a = some o → ∃ o', H' a = some o'
  own : ∀ c a o, H a = some o → Own μ' loc' c a → Own μ loc c a
theorem Stp.refl : Stp b μ loc H μ loc H := ⟨fun _ _ h => h, Nat.le_refl _, fun _ _ => rfl, fun _ _ h _ => h, fun _ o h => ⟨o, h⟩, fun _ _ _ _ h => h⟩
theorem Stp.trans (s : Stp b μ loc H μ' loc' H') (t : Stp b μ' loc' H' μ2 loc2 H2) : Stp b μ loc H μ2 loc2 H2 where
  pre := fun i p h => t.pre i p (s.pre i p h)
  len := Nat.le_trans s.len t.len
  low := fun i h => (t.low i h).trans (s.low i h)
  keep := fun a o h z => t.keep a o (s.keep a o h z) fun z' => z (s.own b a o h z')
  there := fun a o h => by
    obtain ⟨o', h'⟩ := s.there a o h
    exact t.there a o' h'
  own := fun c a o h z => by
    obtain ⟨o', h'⟩ := s.there a o h
    exact s.own c a o h (t.own c a o' h' z)
theorem Stp.mono {c : Nat} (s : Stp b μ loc H μ' loc' H') (h : c ≤ b) : Stp c μ loc H μ' loc' H' :=
  ⟨s.pre, s.len, fun i hi => s.low i (Nat.lt_of_lt_of_le hi h), fun a o e z => s.keep a o e fun z' => z (z'.mono h), s.there, s.own⟩
theorem Stp.keeps (s : Stp b μ loc H μ' loc' H') : Keeps loc loc' (Own μ loc 0) (Own μ' loc' 0) H H' :=
  ⟨s.pre, fun a o h z => s.keep a o h fun z' => z (z'.mono (Nat.zero_le _)), fun a o h z z' => z (s.own 0 a o h z')⟩

/-- the frame's names -/
structure ER (A : Ad) (loc : Loc) (Z : Addr → Prop) (H : Hp) (e : MI.Env) (σ : L2.St) : Prop where
  len : e.length = σ.length
  at_ : ∀ (i : Nat) d, e[i]? = some (some d) → ∃ v, σ[i]? = some (some v) ∧ RD A loc Z H d v
theorem ER.mono {Z Z' : Addr → Prop} {e : MI.Env} {σ : L2.St} (k : Keeps loc loc' Z Z' H H') (r : ER A loc Z H e σ) : ER A loc' Z' H' e σ :=
  ⟨r.len, fun i d h => by
    obtain ⟨v, h1, h2⟩ := r.at_ i d h
    exact ⟨v, h1, h2.mono k⟩⟩
theorem ER.set {Z : Addr → Prop} {e : MI.Env} {σ : L2.St} {i : Nat} {d : D} {v : V} (r : ER A loc Z H e σ) (hi : i < e.length) (h : RD A loc Z H d v) : ER A loc Z H (e.set i (some d)) (σ.set i (some v)) := by
  refine ⟨by simpa using r.len, fun j d' h' => ?_⟩
  by_cases hj : i = j
  · subst hj
    rw [List.getElem?_set_self hi] at h'
    cases h'
    exact ⟨v, List.getElem?_set_self (by rw [← r.len]; exact hi), h⟩
  · rw [List.getElem?_set_ne hj] at h'
    obtain ⟨w, h1, h2⟩ := r.at_ j d' h'
    exact ⟨w, by rw [List.getElem?_set_ne hj]; exact h1, h2⟩

/-- all that is known at a point -/
structure At (A : Ad) (b : Nat) (e : MI.Env) (σ : L2.St) (μ : Store) (loc : Loc) (H : Hp) : Prop where
  sim : Sim A μ loc H
  er : ER A loc (Own μ loc 0) H e σ
  hb : b ≤ μ.length
theorem At.next {e : MI.Env} {σ : L2.St} (a : At A b e σ μ loc H) (s : Stp b μ loc H μ' loc' H') (S : Sim A μ' loc' H') : At A b e σ μ' loc' H' := ⟨S, a.er.mono s.keeps, Nat.le_trans a.hb s.len⟩
end
abbrev RDat (A : Ad) (μ : Store) (loc : Loc) (H : Hp) : D → V → Prop := RD A loc (Own μ loc 0) H
abbrev RDsat (A : Ad) (μ : Store) (loc : Loc) (H : Hp) : List D → List V → Prop := RDs A loc (Own μ loc 0) H

/-! ### results -/
def post {α : Type} (r : R α) (ok : α → Store → Prop) (ex : D → Store → Prop) : Prop := match r with
  | .ok a μ => ok a μ
  | .ex x μ => ex x μ
  | .no => False
theorem post_bind {α β : Type} {r : R α} {f : α → Store → R β} {ok : β → Store → Prop} {ex : D → Store → Prop} (h : post (r.bind f) ok ex) : post r (fun a μ => post (f a μ) ok ex) ex := by
  cases r with
  | ok a μ => exact h
  | ex x μ => exact h
  | no => exact h
theorem post_ofO {α : Type} {μ : Store} {o : Option α} {ok : α → Store → Prop} {ex : D → Store → Prop} (h : post (MI.ofO μ o) ok ex) : ∃ a, o = some a ∧ ok a μ := by
  cases o with
  | none => exact h.elim
  | some a => exact ⟨a, rfl, h⟩
theorem post_mono {α : Type} {r : R α} {ok ok' : α → Store → Prop} {ex ex' : D → Store → Prop} (h : post r ok ex) (h1 : ∀ a μ, ok a μ → ok' a μ) (h2 : ∀ x μ, ex x μ → ex' x μ) : post r ok' ex' := by
  cases r with
  | ok a μ => exact h1 _ _ h
  | ex x μ => exact h2 _ _ h
  | no => exact h

/-! ### objects made, lists written -/
section
variable {A : Ad} {μ : Store} {loc : Loc} {H : Hp} {b : Nat} {p : Addr}
theorem own_none (S : Sim A μ loc H) (hp : H p = none) : ¬ Own μ loc 0 p := fun z => by
  obtain ⟨o, h⟩ := S.there z
  rw [hp] at h; cases h
/-- a frozen object is laid -/
theorem laid (S : Sim A μ loc H) (hp : H p = none) (o : HO) : Sim A μ loc (upd H p o) ∧ Stp b μ loc H μ loc (upd H p o) := by
  have ne : ∀ a u, H a = some u → a ≠ p := fun a u h => ne_of_none h hp
  have st : Stp b μ loc H μ loc (upd H p o) := ⟨fun _ _ h => h, Nat.le_refl _, fun _ _ => rfl, fun a u h _ => by rw [upd_ne (ne a u h)]; exact h, fun a u h => ⟨u, by rw [upd_ne (ne a u h)]; exact h⟩, fun _ _ _ _ h => h⟩
  have k : Keeps loc loc (Own μ loc 0) (Own μ loc 0) H (upd H p o) := st.keeps
  refine ⟨⟨S.len, S.inj, fun i so q e1 e2 => ?_⟩, st⟩
  have r := S.rel i so q e1 e2
  cases so with
  | lst ds =>
    obtain ⟨xs, h, r⟩ := r
    exact ⟨xs, by rw [upd_ne (ne _ _ h)]; exact h, r.mono k⟩
  | obj c fs =>
    obtain ⟨nd, vs, h, ⟨od, hd⟩, hl, r⟩ := r
    refine ⟨nd, vs, ?_, ⟨od, by rw [upd_ne (ne _ _ hd)]; exact hd⟩, hl, fun k' d e => ?_⟩
    · rcases h with ⟨h, e⟩ | ⟨h, e⟩
      · exact .inl ⟨by rw [upd_ne (ne _ _ h)]; exact h, e⟩
      · exact .inr ⟨by rw [upd_ne (ne _ _ h)]; exact h, by rw [upd_ne (ne _ _ e)]; exact e⟩
    · obtain ⟨v, h1, h2⟩ := r k' d e
      exact ⟨v, h1, h2.mono k⟩
  | dead => trivial
theorem rd_tup (S : Sim A μ loc H) (hp : H p = none) {ds : List D} {xs : List V} (r : RDsat A μ loc H ds xs) : RDat A μ loc (upd H p (.tup xs)) (.tup ds) (.ref p) :=
  .tupH (.inl upd_same) (own_none S hp) (r.mono (laid (b := 0) S hp _).2.keeps)
theorem rd_lst (S : Sim A μ loc H) (hp : H p = none) {ds : List D} {xs : List V} (r : RDsat A μ loc H ds xs) : RDat A μ loc (upd H p (.lst xs)) (.lst ds) (.ref p) :=
  .lstH (.inl upd_same) (own_none S hp) (r.mono (laid (b := 0) S hp _).2.keeps)

theorem own_app {so : SO} {q : LE} {c : Nat} {x : Addr} (S : Sim A μ loc H) (h : Own (μ ++ [so]) (loc ++ [q]) c x) : Own μ loc c x ∨ own so q x := by
  obtain ⟨i, so', q', e0, e1, e2, e3⟩ := h
  by_cases hi : i < μ.length
  · rw [List.getElem?_append_left hi] at e1
    rw [List.getElem?_append_left (by rw [S.len]; exact hi)] at e2
    exact .inl ⟨i, so', q', e0, e1, e2, e3⟩
  · have hl : i < (μ ++ [so]).length := (List.getElem?_eq_some_iff.mp e1).1
    have e : i = μ.length := by simp at hl; omega
    subst e
    rw [List.getElem?_append_right (Nat.le_refl _)] at e1
    rw [List.getElem?_append_right (by rw [S.len]; exact Nat.le_refl _), S.len] at e2
    simp at e1 e2
    subst e1 e2
    exact .inr e3
theorem own_app_old {so : SO} {q : LE} {c : Nat} {x : Addr} (S : Sim A μ loc H) (h : Own μ loc c x) : Own (μ ++ [so]) (loc ++ [q]) c x := by
  obtain ⟨i, so', q', e0, e1, e2, e3⟩ := h
  exact ⟨i, so', q', e0, by rw [List.getElem?_append_left (List.getElem?_eq_some_iff.mp e1).1]; exact e1, by rw [List.getElem?_append_left (List.getElem?_eq_some_iff.mp e2).1]; exact e2, e3⟩
/-- an entry is added: all that it owns is new -/
theorem added {so : SO} {q : LE} {H' : Hp} (S : Sim A μ loc H) (hb : b ≤ μ.length) (new : ∀ x, own so q x → H x = none) (k : ∀ a o, H a = some o → H' a = some o)
    (r : Stp b μ loc H (μ ++ [so]) (loc ++ [q]) H' → RS A (loc ++ [q]) (Own (μ ++ [so]) (loc ++ [q]) 0) H' so q) : Sim A (μ ++ [so]) (loc ++ [q]) H' ∧ Stp b μ loc H (μ ++ [so]) (loc ++ [q]) H' := by
  have st : Stp b μ loc H (μ ++ [so]) (loc ++ [q]) H' := by
    refine ⟨fun i p' h => by rw [List.getElem?_append_left (List.getElem?_eq_some_iff.mp h).1]; exact h, by simp, fun i hi => ?_, fun a o h _ => k a o h, fun a o h => ⟨o, k a o h⟩, fun c a o h z => ?_⟩
    · rw [List.getElem?_append_left (Nat.lt_of_lt_of_le hi hb)]
    · rcases own_app S z with z | z
      · exact z
      · rw [new _ z] at h; cases h
  have old : ∀ (i : Nat) so' p', (μ ++ [so])[i]? = some so' → (loc ++ [q])[i]? = some p' → (i < μ.length ∧ μ[i]? = some so' ∧ loc[i]? = some p') ∨ (i = μ.length ∧ so' = so ∧ p' = q) := fun i so' p' e1 e2 => by
    by_cases hi : i < μ.length
    · rw [List.getElem?_append_left hi] at e1
      rw [List.getElem?_append_left (by rw [S.len]; exact hi)] at e2
      exact .inl ⟨hi, e1, e2⟩
    · have hl : i < (μ ++ [so]).length := (List.getElem?_eq_some_iff.mp e1).1
      have e : i = μ.length := by simp at hl; omega
      subst e
      rw [List.getElem?_append_right (Nat.le_refl _)] at e1
      rw [List.getElem?_append_right (by rw [S.len]; exact Nat.le_refl _), S.len] at e2
      simp at e1 e2
      exact .inr ⟨rfl, e1.symm, e2.symm⟩
  have apart : ∀ (i : Nat) so' p' x, μ[i]? = some so' → loc[i]? = some p' → own so' p' x → own so q x → False := fun i so' p' x e1 e2 e3 e4 => by
    obtain ⟨o, h⟩ := S.there (b := 0) ⟨i, so', p', Nat.zero_le _, e1, e2, e3⟩
    rw [new x e4] at h; cases h
  refine ⟨⟨by simp [S.len], fun i j so1 so2 p1 p2 x ne a1 a2 b1 b2 o1 o2 => ?_, fun i so' p' e1 e2 => ?_⟩, st⟩
  · rcases old i so1 p1 a1 b1 with ⟨_, c1, c2⟩ | ⟨c0, c1, c2⟩
    · rcases old j so2 p2 a2 b2 with ⟨_, d1, d2⟩ | ⟨d0, d1, d2⟩
      · exact S.inj i j so1 so2 p1 p2 x ne c1 d1 c2 d2 o1 o2
      · subst d1 d2
        exact apart i so1 p1 x c1 c2 o1 o2
    · rcases old j so2 p2 a2 b2 with ⟨_, d1, d2⟩ | ⟨d0, d1, d2⟩
      · subst c1 c2
        exact apart j so2 p2 x d1 d2 o2 o1
      · exact ne (c0.trans d0.symm)
  · rcases old i so' p' e1 e2 with ⟨_, c1, c2⟩ | ⟨_, c1, c2⟩
    · have r0 := S.rel i so' p' c1 c2
      have kk := st.keeps
      cases so' with
      | lst ds =>
        obtain ⟨xs, h, r⟩ := r0
        exact ⟨xs, k _ _ h, r.mono kk⟩
      | obj c fs =>
        obtain ⟨nd, vs, h, ⟨od, hd⟩, hl, r⟩ := r0
        refine ⟨nd, vs, ?_, ⟨od, k _ _ hd⟩, hl, fun k' d e => ?_⟩
        · rcases h with ⟨h, e⟩ | ⟨h, e⟩
          · exact .inl ⟨k _ _ h, e⟩
          · exact .inr ⟨k _ _ h, k _ _ e⟩
        · obtain ⟨v, h1, h2⟩ := r k' d e
          exact ⟨v, h1, h2.mono kk⟩
      | dead => trivial
    · subst c1 c2
      exact r st
/-- a new list goes into the store -/
theorem add_lst (S : Sim A μ loc H) (hb : b ≤ μ.length) (hp : H p = none) {ds : List D} {xs : List V} (r : RDsat A μ loc H ds xs) :
    Sim A (μ ++ [.lst ds]) (loc ++ [⟨p, p⟩]) (upd H p (.lst xs)) ∧ Stp b μ loc H (μ ++ [.lst ds]) (loc ++ [⟨p, p⟩]) (upd H p (.lst xs)) := by
  refine added S hb (fun x h => ?_) (fun a o h => ?_) fun st => ⟨xs, upd_same, r.mono st.keeps⟩
  · have h : x = p := h
    rw [h]; exact hp
  · rw [upd_ne (ne_of_none h hp)]; exact h

/-- an entry's content turns, what it owns stays: the heap turns within what it owns -/
theorem turned {so so' : SO} {q : LE} {H' : Hp} {i : Nat} (S : Sim A μ loc H) (hi : μ[i]? = some so) (hq : loc[i]? = some q) (hb : b ≤ i) (ho : ∀ x, own so' q x ↔ own so q x)
    (k : ∀ a o, H a = some o → ¬ own so q a → H' a = some o) (th : ∀ a, own so q a → ∃ o, H' a = some o)
    (r : Stp b μ loc H (μ.set i so') loc H' → RS A loc (Own (μ.set i so') loc 0) H' so' q) : Sim A (μ.set i so') loc H' ∧ Stp b μ loc H (μ.set i so') loc H' := by
  have hil : i < μ.length := (List.getElem?_eq_some_iff.mp hi).1
  have ow : ∀ c x, Own (μ.set i so') loc c x → Own μ loc c x := fun c x ⟨j, sj, pj, e0, e1, e2, e3⟩ => by
    by_cases hj : i = j
    · subst hj
      rw [List.getElem?_set_self hil] at e1
      cases e1
      rw [hq] at e2; cases e2
      exact ⟨i, so, q, e0, hi, hq, (ho x).mp e3⟩
    · rw [List.getElem?_set_ne hj] at e1
      exact ⟨j, sj, pj, e0, e1, e2, e3⟩
  have st : Stp b μ loc H (μ.set i so') loc H' := by
    refine ⟨fun _ _ h => h, by simp, fun j hj => by rw [List.getElem?_set_ne (by omega)], fun a o h z => k a o h fun z' => z ⟨i, so, q, hb, hi, hq, z'⟩, fun a o h => ?_, fun c a o _ z => ow c a z⟩
    by_cases z : own so q a
    · exact th a z
    · exact ⟨o, k a o h z⟩
  have apart : ∀ (j : Nat) so1 p1 x, j ≠ i → μ[j]? = some so1 → loc[j]? = some p1 → own so1 p1 x → ¬ own so q x := fun j so1 p1 x ne e1 e2 o1 o2 => S.inj j i so1 so p1 q x ne e1 hi e2 hq o1 o2
  refine ⟨⟨by simp [S.len], fun i' j so1 so2 p1 p2 x ne a1 a2 b1 b2 o1 o2 => ?_, fun j sj pj e1 e2 => ?_⟩, st⟩
  · have back : ∀ (j : Nat) so1 p1, (μ.set i so')[j]? = some so1 → loc[j]? = some p1 → own so1 p1 x → ∃ so2, μ[j]? = some so2 ∧ own so2 p1 x := fun j so1 p1 e1 e2 e3 => by
      by_cases hj : i = j
      · subst hj
        rw [List.getElem?_set_self hil] at e1
        cases e1
        rw [hq] at e2; cases e2
        exact ⟨so, hi, (ho x).mp e3⟩
      · rw [List.getElem?_set_ne hj] at e1
        exact ⟨so1, e1, e3⟩
    obtain ⟨s1, c1, c2⟩ := back i' so1 p1 a1 b1 o1
    obtain ⟨s2, d1, d2⟩ := back j so2 p2 a2 b2 o2
    exact S.inj i' j s1 s2 p1 p2 x ne c1 d1 b1 b2 c2 d2
  · by_cases hj : i = j
    · subst hj
      rw [List.getElem?_set_self hil] at e1
      cases e1
      rw [hq] at e2; cases e2
      exact r st
    · rw [List.getElem?_set_ne hj] at e1
      have r0 := S.rel j sj pj e1 e2
      have kk := st.keeps
      have ap : ∀ x, own sj pj x → ¬ own so q x := fun x o1 => apart j sj pj x (Ne.symm hj) e1 e2 o1
      cases sj with
      | lst ds =>
        obtain ⟨xs, h, r⟩ := r0
        exact ⟨xs, k _ _ h (ap _ rfl), r.mono kk⟩
      | obj c fs =>
        obtain ⟨nd, vs, h, ⟨od, hd⟩, hl, r⟩ := r0
        refine ⟨nd, vs, ?_, ⟨od, k _ _ hd (ap _ (.inr rfl))⟩, hl, fun k' d e => ?_⟩
        · rcases h with ⟨h, e⟩ | ⟨h, e⟩
          · exact .inl ⟨k _ _ h (ap _ (.inl rfl)), e⟩
          · exact .inr ⟨k _ _ h (ap _ (.inl rfl)), k _ _ e (ap _ (.inr rfl))⟩
        · obtain ⟨v, h1, h2⟩ := r k' d e
          exact ⟨v, h1, h2.mono kk⟩
      | dead => trivial
/-- a list of the store is written -/
theorem set_lst {ds ds' : List D} {q : LE} {i : Nat} {xs : List V} (S : Sim A μ loc H) (hi : μ[i]? = some (.lst ds)) (hq : loc[i]? = some q) (hb : b ≤ i) (r : RDsat A μ loc H ds' xs) :
    Sim A (μ.set i (.lst ds')) loc (upd H q.a (.lst xs)) ∧ Stp b μ loc H (μ.set i (.lst ds')) loc (upd H q.a (.lst xs)) := by
  refine turned S hi hq hb (fun x => Iff.rfl) (fun a o h z => ?_) (fun a z => ?_) fun st => ⟨xs, upd_same, r.mono st.keeps⟩
  · have z : ¬ a = q.a := z
    rw [upd_ne z]; exact h
  · have z : a = q.a := z
    exact ⟨_, by rw [z, upd_same]⟩
/-- a slot of an instance in the store is written -/
theorem set_obj {c k : Nat} {fs : List (Option D)} {q : LE} {i : Nat} {vs : List (Option V)} {d : D} {v : V} (S : Sim A μ loc H) (hi : μ[i]? = some (.obj c fs)) (hq : loc[i]? = some q) (hb : b ≤ i)
    (hs : SlX.Slt H q.a (A.ca c) q.dx vs) (hr : RDO A loc (Own μ loc 0) H fs vs) (ne : q.dx ≠ q.a) (hk : k < fs.length) (r : RDat A μ loc H d v) :
    Sim A (μ.set i (.obj c (fs.set k (some d)))) loc (SlX.slH H q.a (A.ca c) q.dx (SlX.putS k v vs)) ∧ Stp b μ loc H (μ.set i (.obj c (fs.set k (some d)))) loc (SlX.slH H q.a (A.ca c) q.dx (SlX.putS k v vs)) := by
  refine turned S hi hq hb (fun x => Iff.rfl) (fun a o h z => ?_) (fun a z => ?_) fun st => ⟨ne, _, SlX.slH_slt ne, ?_, ?_, fun j d' e => ?_⟩
  · rw [SlX.slH_ne (fun z' => z (.inl z')) fun z' => z (.inr z')]; exact h
  · rcases z with z | z
    · exact ⟨_, by rw [z]; unfold SlX.slH; rw [upd_same]⟩
    · exact ⟨_, by rw [z]; unfold SlX.slH; rw [upd_ne ne, upd_same]⟩
  · exact ⟨_, by unfold SlX.slH; rw [upd_ne ne, upd_same]⟩
  · have := hr.1
    unfold SlX.putS
    simp only [List.length_set, List.length_append, List.length_replicate]
    omega
  · by_cases hj : k = j
    · subst hj
      rw [List.getElem?_set_self hk] at e
      cases e
      exact ⟨v, SlX.putS_get _ _ _, r.mono st.keeps⟩
    · rw [List.getElem?_set_ne hj] at e
      obtain ⟨w, h1, h2⟩ := hr.2 j d' e
      exact ⟨w, (SlX.putS_ne (Ne.symm hj)).mpr h1, h2.mono st.keeps⟩
end
end MS

set_option maxRecDepth 100000
set_option maxHeartbeats 4000000
/-! UwNe: a != b by an own __eq__, bool(x) by an own __bool__. -/
namespace MS
open PySem PySem.Spec PyProof.Rows L2
section
open PySem.W PySem.Calls Builtin
variable {prog : Program} {w : World} {A : Around} {E : Value → Shared → Prop} {s : Shared} {K : PySem.W.Frag} {x C L f : Addr} {h₀ : Heap} {m : Str → Option Value} {ox : Obj} {od : Option Obj} {b tb : Value}
theorem ifBoundB_K {M : Model} {id : String} {name : Str} {args : List Value} {Q : Option Value → Shared → Prop} (X : K.In s.heap) (I : InstAt s.heap x ox C od) (hs : findIn K (.ref C) name = some (some (.builtin id))) (hb : bindSpecial (.builtin id) (.ref x) = pure (.builtin id, [.ref x]))
    (h : wpAny M A (call (.builtin id) (.ref x :: args)) (fun v => Q (some v)) E s) : wpAny M A (callSpecialIfBound? (.ref x) name args) Q E s := by
  simp only [callSpecialIfBound?, bindSpecialIfBound?]
  refine wpAny_holding (wpAny_bind (wpAny_bind (wpAny_bind (I.type.here ((looks_findIn X hs).here ?_)))))
  simp only [hb]
  refine wpAny_bind (wpAny_askSetting (wpAny_ite ?_))
  have fin : wpAny M A (call (.builtin id) ([.ref x] ++ args) >>= fun v => pure (some v)) Q E s := wpAny_bind (wpAny_mono h (fun v s' h' => wpAny_pure h') fun _ _ h' => h')
  split
  · exact wpAny_bind (wpAny_pure (wpAny_pure (by exact fin)))
  · exact wpAny_tryCatch (wpAny_bind (wpAny_pure (wpAny_pure (by exact fin))))
theorem check_ne {M : Model} {Q : Unit → Shared → Prop} (X : K.In s.heap) (I : InstAt s.heap x ox C od) (hm : mroIn K C (.type "object") = some true) (hq : Q () s) : wpAny M A (checkBuiltinCall "object.__ne__" ⟨[.ref x, b], []⟩) Q E s := by
  simp only [checkBuiltinCall, PySem.F.cmpKind_ne, PySem.F.cmpSplit_ne]
  refine wpAny_bind (m := isInstance (.ref x) (.type "object")) ?_
  have L : Looks M s.heap (isInstance (.ref x) (.type "object")) true := by
    unfold isInstance
    exact I.type.andThen (looks_mroIn X hm)
  refine L.here ?_
  have ha := PySem.F.cmpArgs_ne (.ref x) b
  show wpAny M A (match Manifest.signature? "object.__ne__" with
    | some sig => Bind.checkArgs "object.__ne__" sig ⟨[.ref x, b], []⟩
    | _ => pure ()) Q E s
  cases hsig : Manifest.signature? "object.__ne__" with
  | none => exact wpAny_pure hq
  | some sig =>
    simp only [argsOk, hsig] at ha
    have h2 : Bind.checkArgs "object.__ne__" sig ⟨[.ref x, b], []⟩ = pure () := ha
    show wpAny M A (Bind.checkArgs "object.__ne__" sig ⟨[.ref x, b], []⟩) Q E _
    rw [h2]; exact wpAny_pure hq
theorem ne_entry {Q : Fin → Shared → Prop} (hu : A.units < cLine) (X : K.In s.heap) (I : InstAt s.heap x ox C od) (hs : findIn K (.ref C) "__eq__" = some (some (.ref f))) (hf : isFn K (.ref f) = true)
    (h : wpAny (model prog w) A (call (.ref f) [.ref x, b]) (fun v s' => ∃ c, v = .bool c ∧ Q (.done (.ret (.bool (!c)))) s') E s) : wpAny (model prog w) A (Builtin.«object.__ne__» ⟨[.ref x, b], []⟩) Q E s := by
  unfold Builtin.«object.__ne__»
  repeat (first
    | with_reducible refine wpAny_cRoomFor hu ?_
    | (refine wpAny_bind (m := callSpecialIfBound? (.ref x) (Str.ofString "__eq__") [b])
        (ifBound_K X I hs hf (wpAny_mono h (fun r s' hr => by
          obtain ⟨b, rfl, hq⟩ := hr
          repeat (first | exact hq | exact wpAny_pure hq | exact wpAny_truthy_bool hq | (refine wpAny_bind (m := truthy (.bool _)) (wpAny_truthy_bool ?_)) | wp_step)) fun _ _ e => e)))
    | wp_step)
theorem ne_K {Q : Value → Shared → Prop} (hu : A.units + 1 < cLine) (F : Fr h₀ L s.heap m) (X₀ : K.In h₀) (I : InstAt s.heap x ox C od) (hb : Looks (model prog w) s.heap (typeOf b) tb) (hn : notFirst K C tb = true)
    (hne : findIn K (.ref C) "__ne__" = some (some (.builtin "object.__ne__"))) (hm : mroIn K C (.type "object") = some true) (hs : findIn K (.ref C) "__eq__" = some (some (.ref f))) (hf : isFn K (.ref f) = true)
    (h : wpAny (model prog w) A.in1 (call (.ref f) [.ref x, b]) (fun v s' => ∃ c, v = .bool c ∧ Q (.bool (!c)) s') E s) : wpAny (model prog w) A (richCompare .NotEq (.ref x) b) Q E s := by
  have X := X₀.keeps F.keep
  have one : wpAny (model prog w) A (tryCompare (.ref x) "__ne__" b) (fun r s' => ∃ v, r = some v ∧ Q v s') E s := by
    unfold tryCompare
    refine wpAny_bind (ifBoundB_K X I hne (PySem.F.slot_tuple_iterator_ne.bind _) (wpAny_call (codeAny_call_builtin PySem.F.slot_tuple_iterator_ne.plain PySem.F.cmpEntry_ne (check_ne X I hm (ne_entry (show A.units + 1 < cLine from hu) X I hs hf (wpAny_mono h (fun v s' hv => ?_) fun _ _ e => e))))))
    obtain ⟨c, rfl, hq⟩ := hv
    first | exact ⟨c, rfl, wpAny_pure ⟨_, rfl, hq⟩⟩ | exact ⟨c, rfl, wpAny_pure (wpAny_pure ⟨_, rfl, hq⟩)⟩ | exact ⟨c, rfl, ⟨_, rfl, hq⟩⟩
  unfold richCompare
  simp only [oneThing_ref]
  refine wpAny_holding (wpAny_bind (wpAny_cRoomFor (Nat.lt_of_succ_lt hu) ?_))
  rw [cmpInfo_NotEq]
  dsimp only
  refine wpAny_bind (I.type.here (wpAny_bind (hb.here ?_)))
  split
  · rename_i q
    have e : subIn K tb (.ref C) = some false := by
      rcases Bool.or_eq_true_iff.mp hn with e | e
      · rw [beq_iff_eq.mp e] at q; simp at q
      · exact beq_iff_eq.mp e
    refine wpAny_bind ((looks_subIn X e).here ?_)
    simp only [Bool.false_eq_true, if_false]
    refine wpAny_bind (wpAny_mono one (fun r s' z => ?_) fun _ _ e => e)
    obtain ⟨v, rfl, hq⟩ := z
    exact wpAny_pure hq
  · refine wpAny_bind (wpAny_pure ?_)
    simp only [Bool.false_eq_true, if_false]
    refine wpAny_bind (wpAny_mono one (fun r s' z => ?_) fun _ _ e => e)
    obtain ⟨v, rfl, hq⟩ := z
    exact wpAny_pure hq
/-- bool(x) by an own __bool__ -/
theorem bool_own {Q : Value → Shared → Prop} (F : Fr h₀ L s.heap m) (X₀ : K.In h₀) (I : InstAt s.heap x ox C od) (hs : findIn K (.ref C) "__bool__" = some (some (.ref f))) (hf : isFn K (.ref f) = true)
    (h : wpAny (model prog w) A.in1.in1 (call (.ref f) [.ref x]) (fun v s' => ∃ c, v = .bool c ∧ Q (.bool c) s') E s) : wpAny (model prog w) A (call (.type "bool") [.ref x]) Q E s := by
  have X := X₀.keeps F.keep
  refine callType_codes (T := "bool") (Bi := Builtin.«object.__init__») (Q₁ := fun r s₁ => ∃ c, r = Value.bool c ∧ Q r s₁) PySem.F.called_bool (PySem.F.typeCall_bool_1 _) PySem.F.entry_object_init ?_ ?_
  · refine codeAny_of_tree ?_
    show wpAny _ A.in1.in1 (do checkBuiltinCall "bool.__new__" ⟨[.type "bool", .ref x], []⟩; again (.builtin "bool.__new__" ⟨[.type "bool", .ref x], []⟩)) _ _ s
    refine wpAny_bind (wpAny_of_eq (PySem.F.newCall_bool_1 _) (wpAny_pure ⟨plainId_quiet (by decide +kernel) _, codeAny_builtin PySem.F.entry_bool_new ?_⟩))
    rw [Around.under_plainId (by decide +kernel) _]
    unfold Builtin.«bool.__new__»
    refine wpAny_bind (wpAny_of_eq (a := true) (by show isType (.type "bool") = pure true; kernel_rfl) ?_)
    refine PySem.W.KFB.if_not rfl ?_
    refine wpAny_bind (wpAny_of_eq (a := true) PySem.F.conv_sub_bool ?_)
    refine PySem.W.KFB.if_not rfl ?_
    refine wpAny_bind (wpAny_of_eq (a := [.ref x]) rfl ?_)
    refine wpAny_bind (truthy_K (L := L) (m := m) F X₀ I hs hf (wpAny_mono h (fun r s₁ hr => ?_) fun _ _ y => y))
    obtain ⟨c, rfl, hq⟩ := hr
    exact wpAny_pure ⟨c, rfl, hq⟩
  · rintro obj s₁ ⟨c, rfl, hq⟩
    exact ⟨rfl, PySem.F.args_object_init_2 _ _, object_init_meets PySem.F.called_bool.init.lookup PySem.F.called_bool.made (by decide) prog w A.in1 _ s₁ ⟨rfl, rfl, hq⟩⟩
end
end MS

set_option maxRecDepth 100000
set_option maxHeartbeats 1000000
/-! UwSound: what the interpreter tells of an expression is what the model does. -/
namespace MS
open PySem PySem.Spec PyProof.Rows L2
open MI (D SO Store R SR Ex Ts Sm TgN)

/-- an exception of the store's side and one of the model's -/
inductive RX (A : Ad) (loc : Loc) (μ : Store) (H : Hp) : D → Value → Option Addr → Prop

/-- names by their ids -/
structure Gn where
  fn : List (Option Str)
  cl : List Str
  gl : List Str
  at_ : List Str

def ExW (A : Ad) (b : Nat) (μ : Store) (loc : Loc) (H : Hp) (w : Value → Option Addr → Hp → Prop) (x : D) (μ' : Store) : Prop :=
  ∀ H' loc' cls d, Sim A μ' loc' H' → Stp b μ loc H μ' loc' H' → RX A loc' μ' H' x cls d → w cls d H'
theorem ExW.next {A : Ad} {b : Nat} {μ μ1 μ' : Store} {loc loc1 : Loc} {H H1 : Hp} {w : Value → Option Addr → Hp → Prop} {x : D} (h : ExW A b μ loc H w x μ') (s : Stp b μ loc H μ1 loc1 H1) : ExW A b μ1 loc1 H1 w x μ' :=
  fun H' loc' cls d S t r => h H' loc' cls d S (s.trans t) r

/-- what a def promises: what the interpreter's call tells -/
def spF (A : Ad) (P : MI.Prog) (k b f : Nat) : Sp := fun vs H Q E => ∃ ds μ loc, Sim A μ loc H ∧ b ≤ μ.length ∧ RDsat A μ loc H ds vs ∧
  post (MI.callN P k b f ds μ) (fun d μ' => ∀ v H' loc', Sim A μ' loc' H' → Stp b μ loc H μ' loc' H' → RDat A μ' loc' H' d v → Q v H') (ExW A b μ loc H E)

/-- what the written part tells of a class -/
structure ClsF (K : PySem.W.Frag) (fa ca : Nat → Addr) (P : MI.Prog) (G : Gn) (c : Nat) (k : MI.Cls) : Prop where
  sc : SlX.SCls K (ca c)
  si : SlX.SIsi K (ca c)
  mke : Mk K (ca c) (fa k.init)
  sf : PySem.W.selfFirst K (ca c) = true
  meth : ∀ m f, MI.methOf P c m = some f → ∃ x, G.at_[m]? = some x ∧ Meth K (ca c) x (fa f)
  slot : ∀ m i, MI.slotOf P c m = some i → ∃ x p, G.at_[m]? = some x ∧ SlX.Slot1 K (ca c) x p i
  prop : ∀ m f, MI.propOf P c m = some f → ∃ x p, G.at_[m]? = some x ∧ PySem.W.findIn K (.ref (ca c)) x = some (some (.ref p)) ∧ PySem.W.specialIn K (.ref p) "__get__" = some (some (.builtin "property.__get__")) ∧
    PySem.W.takesIn K (.ref p) = some true ∧ ∃ rest, PySem.W.recIn K p "property" = some (.ref (fa f) :: rest)
  ne : PySem.W.findIn K (.ref (ca c)) "__ne__" = some (some (.builtin "object.__ne__"))
  ity : ∀ n, MI.tyNames.contains n = true → PySem.W.kitOne K (.ref (ca c)) (.type n) = some false
  tyi : ∀ n, ["NoneType", "int", "bool", "str", "tuple", "list", "dict"].contains n = true → PySem.W.kitOne K (.type n) (.ref (ca c)) = some false
  ici : ∀ (c' : Nat) (k' : MI.Cls), P.clss[c']? = some k' → PySem.W.kitOne K (.ref (ca c)) (.ref (ca c')) = some (Nat.beq c c')
  nf : ∀ (c' : Nat) (k' : MI.Cls), P.clss[c']? = some k' → PySem.W.notFirst K (ca c) (.ref (ca c')) = true
  nft : ∀ n, ["NoneType", "int", "bool", "str", "tuple", "list", "dict"].contains n = true → PySem.W.notFirst K (ca c) (.type n) = true
/-- what the written part tells -/
structure Facts (K : PySem.W.Frag) (mg : Str → Option Value) (fa ca : Nat → Addr) (P : MI.Prog) (G : Gn) : Prop where
  fn : ∀ (f : Nat) (x : Str), G.fn[f]? = some (some x) → mg x = some (.ref (fa f)) ∧ PySem.W.keepIn K (.ref (fa f)) = true
  cl : ∀ (c : Nat) (x : Str), G.cl[c]? = some x → mg x = some (.ref (ca c))
  gl : ∀ (i : Nat) (x : Str) (d : D), G.gl[i]? = some x → P.glo[i]? = some d → ∃ v u, mg x = some u ∧ RelV v u ∧ ∀ loc Z H, RD ⟨K, fa, ca⟩ loc Z H d v
  cls : ∀ (c : Nat) (k : MI.Cls), P.clss[c]? = some k → ClsF K fa ca P G c k
  free : ∀ x : Str, (["len", "abs", "max", "min", "int", "bool", "isinstance", "range", "str", "tuple", "list", "dict"].map Str.ofString).contains x = true → mg x = none
  nAdd : G.at_[P.nAdd]? = some ("__add__" : Str)
  nSub : G.at_[P.nSub]? = some ("__sub__" : Str)
  nMul : G.at_[P.nMul]? = some ("__mul__" : Str)
  nNeg : G.at_[P.nNeg]? = some ("__neg__" : Str)
  nEq : G.at_[P.nEq]? = some ("__eq__" : Str)
  nBool : G.at_[P.nBool]? = some ("__bool__" : Str)

/-- the point of view of a running body: b the base of its store, k the depth of calls that is left -/
structure Gd (X : Cx) (fa ca : Nat → Addr) (P : MI.Prog) (G : Gn) (b k n : Nat) (W : WX) : Prop where
  calm : X.calm = true
  nd : X.N.Nodup
  room : Room (n + 3) X.A
  tk : Takes X W
  po : PassesOwn (model X.prog X.w) X.A X.env X.xe
  facts : Facts X.K X.mg fa ca P G
  fns : ∀ b f, FnR X.prog X.w X.K X.mg X.base (L2.CX X.prog X.w) n (fa f) (spF ⟨X.K, fa, ca⟩ P k b f)

section
variable {X : Cx} {fa ca : Nat → Addr} {P : MI.Prog} {G : Gn} {b k n : Nat} {W : WX}
variable (X fa ca P b k W) in
/-- the reading of an expression: what the interpreter tells -/
def tE (ir : Ex) : TE := fun σ H Q => ∃ e μ loc, At ⟨X.K, fa, ca⟩ b e σ μ loc H ∧ post (MI.evE P (MI.callN P k) b ir e μ)
  (fun d μ' => ∀ v H' loc', Sim ⟨X.K, fa, ca⟩ μ' loc' H' → Stp b μ loc H μ' loc' H' → RDat ⟨X.K, fa, ca⟩ μ' loc' H' d v → Q v H') (ExW ⟨X.K, fa, ca⟩ b μ loc H fun cls d H' => W cls d σ H')
variable (X fa ca P b k W) in
def tT (ir : Ts) : TT := fun σ H Q => ∃ e μ loc, At ⟨X.K, fa, ca⟩ b e σ μ loc H ∧ post (MI.evT P (MI.callN P k) b ir e μ)
  (fun d μ' => ∀ H' loc', Sim ⟨X.K, fa, ca⟩ μ' loc' H' → Stp b μ loc H μ' loc' H' → Q d H') (ExW ⟨X.K, fa, ca⟩ b μ loc H fun cls d H' => W cls d σ H')
variable (X fa ca P b k W) in
def tL (irs : List Ex) : TA := fun σ H Q => ∃ e μ loc, At ⟨X.K, fa, ca⟩ b e σ μ loc H ∧ post (MI.evL P (MI.callN P k) b irs e μ)
  (fun ds μ' => ∀ vs H' loc', Sim ⟨X.K, fa, ca⟩ μ' loc' H' → Stp b μ loc H μ' loc' H' → RDsat ⟨X.K, fa, ca⟩ μ' loc' H' ds vs → Q vs H') (ExW ⟨X.K, fa, ca⟩ b μ loc H fun cls d H' => W cls d σ H')

variable {pins : List (Addr × Obj)} {s : Shared} {σ : L2.St} {H : Hp} {e : MI.Env} {μ : Store} {loc : Loc}
theorem run_E {ir : Ex} {ex : Expr} {okP : D → Store → Prop} {exP : D → Store → Prop} {Qf : Value → Shared → Prop} (h : PE X ex (tE X fa ca P b k W ir)) (I : Inv X pins σ H s) (a : At ⟨X.K, fa, ca⟩ b e σ μ loc H)
    (hp : post (MI.evE P (MI.callN P k) b ir e μ) okP exP) (hx : ∀ x μ', exP x μ' → ExW ⟨X.K, fa, ca⟩ b μ loc H (fun cls d H' => W cls d σ H') x μ')
    (kq : ∀ u s' v H' d μ' loc', Inv X pins σ H' s' → RelV v u → At ⟨X.K, fa, ca⟩ b e σ μ' loc' H' → Stp b μ loc H μ' loc' H' → RDat ⟨X.K, fa, ca⟩ μ' loc' H' d v → okP d μ' → Qf u s') :
    wpAny (model X.prog X.w) X.A (eval ex X.env) Qf X.xe s := by
  refine thn (h.run pins s σ H (fun v H' => ∃ d μ' loc', At ⟨X.K, fa, ca⟩ b e σ μ' loc' H' ∧ Stp b μ loc H μ' loc' H' ∧ RDat ⟨X.K, fa, ca⟩ μ' loc' H' d v ∧ okP d μ') I
    ⟨e, μ, loc, a, post_mono hp (fun d μ' ok v H' loc' S st r => ⟨d, μ', loc', a.next st S, st, r, ok⟩) hx⟩) fun u s' ⟨v, H', I', r, d, μ', loc', a', st, rd, ok⟩ => ?_
  exact kq u s' v H' d μ' loc' I' r a' st rd ok
theorem run_T {ir : Ts} {ex : Expr} {okP : Bool → Store → Prop} {exP : D → Store → Prop} {Qf : Bool → Shared → Prop} (h : PT X ex (tT X fa ca P b k W ir)) (I : Inv X pins σ H s) (a : At ⟨X.K, fa, ca⟩ b e σ μ loc H)
    (hp : post (MI.evT P (MI.callN P k) b ir e μ) okP exP) (hx : ∀ x μ', exP x μ' → ExW ⟨X.K, fa, ca⟩ b μ loc H (fun cls d H' => W cls d σ H') x μ')
    (kq : ∀ c s' H' μ' loc', Inv X pins σ H' s' → At ⟨X.K, fa, ca⟩ b e σ μ' loc' H' → Stp b μ loc H μ' loc' H' → okP c μ' → Qf c s') :
    wpAny (model X.prog X.w) X.A (isTrue ex X.env (eval ex X.env)) Qf X.xe s := by
  refine thn (h.run pins s σ H (fun c H' => ∃ μ' loc', At ⟨X.K, fa, ca⟩ b e σ μ' loc' H' ∧ Stp b μ loc H μ' loc' H' ∧ okP c μ') I
    ⟨e, μ, loc, a, post_mono hp (fun d μ' ok H' loc' S st => ⟨μ', loc', a.next st S, st, ok⟩) hx⟩) fun c s' ⟨H', I', μ', loc', a', st, ok⟩ => ?_
  exact kq c s' H' μ' loc' I' a' st ok
theorem run_L {irs : List Ex} {es : List Expr} {pos : Pos} {okP : List D → Store → Prop} {exP : D → Store → Prop} {Qf : List Value → Shared → Prop} (h : PA X es (tL X fa ca P b k W irs)) (I : Inv X pins σ H s) (a : At ⟨X.K, fa, ca⟩ b e σ μ loc H)
    (hp : post (MI.evL P (MI.callN P k) b irs e μ) okP exP) (hx : ∀ x μ', exP x μ' → ExW ⟨X.K, fa, ca⟩ b μ loc H (fun cls d H' => W cls d σ H') x μ')
    (kq : ∀ us s' vs H' ds μ' loc', Inv X pins σ H' s' → Vals vs us → At ⟨X.K, fa, ca⟩ b e σ μ' loc' H' → Stp b μ loc H μ' loc' H' → RDsat ⟨X.K, fa, ca⟩ μ' loc' H' ds vs → okP ds μ' → Qf us s') :
    wpAny (model X.prog X.w) X.A (spliced (backTo pos (starEach es X.env))) Qf X.xe s := by
  refine thn (h.run pos pins s σ H (fun vs H' => ∃ ds μ' loc', At ⟨X.K, fa, ca⟩ b e σ μ' loc' H' ∧ Stp b μ loc H μ' loc' H' ∧ RDsat ⟨X.K, fa, ca⟩ μ' loc' H' ds vs ∧ okP ds μ') I
    ⟨e, μ, loc, a, post_mono hp (fun d μ' ok v H' loc' S st r => ⟨d, μ', loc', a.next st S, st, r, ok⟩) hx⟩) fun u s' ⟨v, H', I', r, d, μ', loc', a', st, rd, ok⟩ => ?_
  exact kq u s' v H' d μ' loc' I' r a' st rd ok

/-! ### the leaves -/
theorem e_no {ex : Expr} : PE X ex (tE X fa ca P b k W .no) := ⟨fun _ _ _ _ _ _ ⟨_, _, _, _, h⟩ => h.elim⟩
theorem e_var {i : Nat} {x : Str} {pos : Pos} (hN : X.N[i]? = some x) (hv : Vis X.env.scope x) (hd : (x == ("__debug__" : Str)) = false) (hcd : (x == ("__classdict__" : Str)) = false) : PE X (.Name x pos) (tE X fa ca P b k W (.var i)) := by
  refine ⟨fun pins s σ H Q I ⟨e, μ, loc, a, h⟩ => ?_⟩
  obtain ⟨d, ed, h⟩ := post_ofO h
  have ed' : e[i]? = some (some d) := by
    cases q : e[i]? with
    | none => rw [q] at ed; cases ed
    | some o => rw [q] at ed; exact congrArg some ed
  obtain ⟨v, hσ, r⟩ := a.er.at_ i d ed'
  exact (pe_var hN hv hd hcd).run pins s σ H Q I ⟨v, hσ, h v H loc a.sim .refl r⟩
theorem e_int {i : Int} {j : Nat} {pos : Pos} : PE X (.Constant (.int i) j pos) (tE X fa ca P b k W (.lit (.int i))) :=
  ⟨fun pins s σ H Q I ⟨e, μ, loc, a, h⟩ => pe_int.run pins s σ H Q I (h _ H loc a.sim .refl (.int i))⟩
theorem e_bl {i : Bool} {j : Nat} {pos : Pos} : PE X (.Constant (.bool i) j pos) (tE X fa ca P b k W (.lit (.bl i))) :=
  ⟨fun pins s σ H Q I ⟨e, μ, loc, a, h⟩ => pe_bl.run pins s σ H Q I (h _ H loc a.sim .refl (.bl i))⟩
theorem e_non {j : Nat} {pos : Pos} : PE X (.Constant .none j pos) (tE X fa ca P b k W (.lit .non)) :=
  ⟨fun pins s σ H Q I ⟨e, μ, loc, a, h⟩ => pe_non.run pins s σ H Q I (h _ H loc a.sim .refl .non)⟩
theorem e_str {x : Str} {j : Nat} {pos : Pos} : PE X (.Constant (.str x) j pos) (tE X fa ca P b k W (.lit (.str x))) :=
  ⟨fun pins s σ H Q I ⟨e, μ, loc, a, h⟩ => pe_str.run pins s σ H Q I (h _ H loc a.sim .refl (.str x))⟩
theorem e_gl {i : Nat} {x : Str} {pos : Pos} (g : Gd X fa ca P G b k n W) (hn : G.gl[i]? = some x) (hg : Gl X x) (hd : (x == ("__debug__" : Str)) = false) : PE X (.Name x pos) (tE X fa ca P b k W (.gl i)) := by
  refine ⟨fun pins s σ H Q I ⟨e, μ, loc, a, h⟩ => ?_⟩
  obtain ⟨d, ed, h⟩ := post_ofO h
  obtain ⟨v, u, hm, rv, rd⟩ := g.facts.gl i x d hn ed
  exact (pe_glob hg hm rv hd).run pins s σ H Q I (h v H loc a.sim .refl (rd _ _ _))
theorem e_fnv {f : Nat} {x : Str} {pos : Pos} (g : Gd X fa ca P G b k n W) (hn : G.fn[f]? = some (some x)) (hg : Gl X x) (hd : (x == ("__debug__" : Str)) = false) : PE X (.Name x pos) (tE X fa ca P b k W (.fnv f)) := by
  refine ⟨fun pins s σ H Q I ⟨e, μ, loc, a, h⟩ => ?_⟩
  exact (pe_glob (v := .ref (fa f)) hg (g.facts.fn f x hn).1 rfl hd).run pins s σ H Q I (h _ H loc a.sim .refl (.fn f))
theorem e_clv {c : Nat} {x : Str} {pos : Pos} (g : Gd X fa ca P G b k n W) (hn : G.cl[c]? = some x) (hg : Gl X x) (hd : (x == ("__debug__" : Str)) = false) : PE X (.Name x pos) (tE X fa ca P b k W (.clv c)) := by
  refine ⟨fun pins s σ H Q I ⟨e, μ, loc, a, h⟩ => ?_⟩
  exact (pe_glob (v := .ref (ca c)) hg (g.facts.cl c x hn) rfl hd).run pins s σ H Q I (h _ H loc a.sim .refl (.cls c))
theorem e_tyv {t : String} {x : Str} {pos : Pos} (hm : X.mg x = none) (hv : bootBuiltins x = some (.type t)) (hg : Gl X x) (hn : x ≠ "__name__") (hd : (x == ("__debug__" : Str)) = false) : PE X (.Name x pos) (tE X fa ca P b k W (.tyv t)) := by
  refine ⟨fun pins s σ H Q I ⟨e, μ, loc, a, h⟩ => ?_⟩
  exact (pe_bltn (v := .ty t) hg hm hv rfl hn hd).run pins s σ H Q I (h _ H loc a.sim .refl (.ty t))

/-! ### lists of expressions -/
theorem l_nil : PA X [] (tL X fa ca P b k W []) := ⟨fun pos pins s σ H Q I ⟨e, μ, loc, a, h⟩ => pa_nil.run pos pins s σ H Q I (h [] H loc a.sim .refl .nil)⟩
theorem l_cons {ir : Ex} {irs : List Ex} {ex : Expr} {es : List Expr} (h1 : PE X ex (tE X fa ca P b k W ir)) (h2 : PA X es (tL X fa ca P b k W irs)) (hs : starEach (ex :: es) X.env = (false, eval ex X.env) :: starEach es X.env) :
    PA X (ex :: es) (tL X fa ca P b k W (ir :: irs)) := by
  refine ⟨fun pos pins s σ H Q I ⟨e, μ, loc, a, h⟩ => ?_⟩
  rw [hs]
  show wpAny _ _ (spliced ((false, eval ex X.env) :: backTo pos (starEach es X.env))) _ _ s
  refine Calls.spliced_cons (run_E h1 I a (post_bind h) (fun _ _ z => z) fun u s1 v H1 d μ1 loc1 I1 r1 a1 st1 rd1 h => ?_)
  refine run_L (pos := pos) h2 I1 a1 (post_bind h) (fun _ _ z => z.next st1) fun us s2 vs H2 ds μ2 loc2 I2 r2 a2 st2 rd2 h => ?_
  exact ⟨v :: vs, H2, I2, .cons r1 r2, h (v :: vs) H2 loc2 a2.sim (st1.trans st2) (.cons (rd1.mono st2.keeps) rd2)⟩
/-- a display -/
theorem e_tup {irs : List Ex} {es : List Expr} {x1 : Nat} {pos : Pos} (h : PA X es (tL X fa ca P b k W irs)) : PE X (.Tuple es x1 pos) (tE X fa ca P b k W (.tup irs)) := by
  refine ⟨fun pins s σ H Q I ⟨e, μ, loc, a, hp⟩ => ?_⟩
  refine (pe_tup h).run pins s σ H Q I ⟨e, μ, loc, a, post_mono (post_bind hp) (fun ds μ1 h2 vs H1 loc1 S1 st1 r1 => ?_) fun _ _ z => z⟩
  split at h2
  · rename_i hz
    have hz : ds.length ≤ 1000000 := Nat.le_of_ble_eq_true hz
    have hl := r1.length
    have hs : sizeLine = 16777216 := sizeLine_eq
    refine ⟨by omega, fun p hq => ?_⟩
    obtain ⟨S2, st2⟩ := laid (b := b) S1 hq (.tup vs)
    exact h2 _ _ loc1 S2 (st1.trans st2) (rd_tup S1 hq r1)
  · exact h2.elim
theorem e_lst {m : Bool} {irs : List Ex} {es : List Expr} {pos : Pos} (h : PA X es (tL X fa ca P b k W irs)) : PE X (.List es pos) (tE X fa ca P b k W (.lst m irs)) := by
  refine ⟨fun pins s σ H Q I ⟨e, μ, loc, a, hp⟩ => ?_⟩
  refine (pe_lst h).run pins s σ H Q I ⟨e, μ, loc, a, post_mono (post_bind hp) (fun ds μ1 h2 vs H1 loc1 S1 st1 r1 => ?_) fun _ _ z => z⟩
  have a1 := a.next st1 S1
  split at h2
  · rename_i hz
    have hz : ds.length ≤ 1000000 := Nat.le_of_ble_eq_true hz
    have hl := r1.length
    have hs : sizeLine = 16777216 := sizeLine_eq
    refine ⟨by omega, fun p hq => ?_⟩
    cases m with
    | false =>
      obtain ⟨S2, st2⟩ := laid (b := b) S1 hq (.lst vs)
      exact h2 _ _ loc1 S2 (st1.trans st2) (rd_lst S1 hq r1)
    | true =>
      obtain ⟨S2, st2⟩ := add_lst (b := b) S1 a1.hb hq r1
      refine h2 _ _ _ S2 (st1.trans st2) ?_
      refine RD.ref (p := ⟨p, p⟩) ?_
      rw [← S1.len]
      simp
  · exact h2.elim

/-! ### truth -/
theorem truth_ok {d : D} {v : V} {c : Bool} {A : Ad} (S : Sim A μ loc H) (r : RDat A μ loc H d v) (h : MI.truth μ d = some c) : TruV A.K v H c := by
  cases r with
  | non => exact (Option.some.inj h).symm
  | bl x => exact (Option.some.inj h).symm
  | int i => exact (Option.some.inj h).symm
  | str z =>
    unfold MI.truth at h
    dsimp only at h
    have hs : sizeLine = 16777216 := sizeLine_eq
    split at h
    · exact ⟨by omega, (Option.some.inj h).symm⟩
    · cases h
  | tupH h1 z r =>
    have e := r.length
    refine .inr (.inl ⟨_, .inl h1, ?_⟩)
    rw [← Option.some.inj h]
    cases r <;> rfl
  | tupK h1 r =>
    refine .inr (.inl ⟨_, .inr h1, ?_⟩)
    rw [← Option.some.inj h]
    cases r <;> rfl
  | lstH h1 z r =>
    refine .inl ⟨_, .inl h1, ?_⟩
    rw [← Option.some.inj h]
    cases r <;> rfl
  | lstK h1 r =>
    refine .inl ⟨_, .inr h1, ?_⟩
    rw [← Option.some.inj h]
    cases r <;> rfl
  | @ref i p hl =>
    unfold MI.truth at h
    dsimp only at h
    cases q : μ[i]? with
    | none => rw [q] at h; cases h
    | some so =>
      rw [q] at h
      cases so with
      | lst ds =>
        obtain ⟨xs, hx, r⟩ := S.rel i _ p q hl
        refine .inl ⟨xs, .inl (.inl hx), ?_⟩
        rw [← Option.some.inj h]
        cases r <;> rfl
      | _ => cases h
  | _ => cases h
end
end MS

set_option maxRecDepth 100000
set_option maxHeartbeats 1000000
/-! UwSound2: operators, calls, attributes. -/
namespace MS
open PySem PySem.Spec PyProof.Rows L2
open MI (D SO Store R SR Ex Ts Sm TgN)

theorem post_noEx {r : R D} {ok : D → Store → Prop} {ex : D → Store → Prop} (h : post (MI.noEx r) ok ex) : post r ok (fun _ _ => False) := by
  cases r with
  | ok d μ => exact h
  | ex x μ => exact h.elim
  | no => exact h
theorem post_blR {r : R D} {ok : D → Store → Prop} {ex : D → Store → Prop} (h : post (MI.blR r) ok ex) : post r (fun d μ => ∃ k, d = .bl k ∧ ok (.bl k) μ) (fun _ _ => False) := by
  cases r with
  | ok d μ => cases d <;> first | exact h.elim | exact ⟨_, rfl, h⟩
  | ex x μ => exact h.elim
  | no => exact h
theorem post_notR {r : R D} {ok : D → Store → Prop} {ex : D → Store → Prop} (h : post (MI.notR r) ok ex) : post r (fun d μ => ∃ k, d = .bl k ∧ ok (.bl (!k)) μ) (fun _ _ => False) := by
  cases r with
  | ok d μ => cases d <;> first | exact h.elim | exact ⟨_, rfl, h⟩
  | ex x μ => exact h.elim
  | no => exact h

section
variable {A : Ad} {μ : Store} {loc : Loc} {H : Hp}
theorem rd_int {i : Int} {v : V} (r : RDat A μ loc H (.int i) v) : v = .int i := by cases r; rfl
theorem rd_bl {i : Bool} {v : V} (r : RDat A μ loc H (.bl i) v) : v = .bl i := by cases r; rfl
theorem rd_ins {c : Nat} {ds : List D} {v : V} (r : RDat A μ loc H (.ins c ds) v) : ∃ a dx xs, v = .ref a ∧ SlX.Slt H a (A.ca c) dx (xs.map some) ∧ RDsat A μ loc H ds xs := by
  cases r with
  | ins h hd z zd r => exact ⟨_, _, _, rfl, .inr ⟨h, hd⟩, r⟩
end

section
variable {X : Cx} {fa ca : Nat → Addr} {P : MI.Prog} {G : Gn} {b k n : Nat} {W : WX}
variable {pins : List (Addr × Obj)} {s : Shared} {σ : L2.St} {H : Hp} {e : MI.Env} {μ : Store} {loc : Loc}
/-- a call of a def of the text, around A -/
theorem callA {A : Around} {f : Nat} {ds : List D} {vs : List V} {us : List Value} {okP : D → Store → Prop} {exP : D → Store → Prop} {Qf : Value → Shared → Prop} (g : Gd X fa ca P G b k n W) (hr : Room n A)
    (e0 : Env0 X.prog X.w X.K X.mg X.base A X.stack s H) (I : Inv X pins σ H s) (a : At ⟨X.K, fa, ca⟩ b e σ μ loc H) (r : Vals vs us) (rd : RDsat ⟨X.K, fa, ca⟩ μ loc H ds vs) (c : Nat) (hc : b ≤ c) (hcl : c ≤ μ.length)
    (hp : post (MI.callN P k c f ds μ) okP exP) (hx : ∀ x μ', exP x μ' → ExW ⟨X.K, fa, ca⟩ b μ loc H (fun cls d H' => W cls d σ H') x μ')
    (kq : ∀ u s' v H' d μ' loc', Inv X pins σ H' s' → RelV v u → At ⟨X.K, fa, ca⟩ b e σ μ' loc' H' → Stp c μ loc H μ' loc' H' → RDat ⟨X.K, fa, ca⟩ μ' loc' H' d v → okP d μ' → Qf u s') :
    codeAny (model X.prog X.w) A (.call (.ref (fa f)) ⟨us, []⟩) (fun r s' => match r with | .ok (.ret v) => Qf v s' | .ok _ => False | .error e => X.xe e s') s := by
  have hsp : spF ⟨X.K, fa, ca⟩ P k c f vs H (fun v H' => ∃ d μ' loc', At ⟨X.K, fa, ca⟩ b e σ μ' loc' H' ∧ Stp c μ loc H μ' loc' H' ∧ RDat ⟨X.K, fa, ca⟩ μ' loc' H' d v ∧ okP d μ') (fun cls d H' => W cls d σ H') :=
    ⟨ds, μ, loc, a.sim, hcl, rd, post_mono hp (fun d μ' ok v H' loc' S st r => ⟨d, μ', loc', a.next (st.mono hc) S, st, r, ok⟩) fun x μ' z H' loc' cls d S st r => hx x μ' z H' loc' cls d S (st.mono hc) r⟩
  refine codeAny_mono (g.fns c f A X.stack s H us vs _ _ hr e0 r hsp) fun r s' hq => ?_
  cases r with
  | error er => exact passAt g.tk σ pins H s er s' I hq
  | ok fl =>
    cases fl with
    | ret u =>
      obtain ⟨v, H', I', rv, d, μ', loc', a', st, rd', ok⟩ := I.after hq
      exact kq u s' v H' d μ' loc' I' rv a' st rd' ok
    | next => exact False.elim hq
    | brk => exact False.elim hq
    | cont => exact False.elim hq
theorem callw {f : Nat} {ds : List D} {vs : List V} {us : List Value} {okP : D → Store → Prop} {exP : D → Store → Prop} {Qf : Value → Shared → Prop} (g : Gd X fa ca P G b k n W)
    (I : Inv X pins σ H s) (a : At ⟨X.K, fa, ca⟩ b e σ μ loc H) (r : Vals vs us) (rd : RDsat ⟨X.K, fa, ca⟩ μ loc H ds vs)
    (hp : post (MI.callN P k b f ds μ) okP exP) (hx : ∀ x μ', exP x μ' → ExW ⟨X.K, fa, ca⟩ b μ loc H (fun cls d H' => W cls d σ H') x μ')
    (kq : ∀ u s' v H' d μ' loc', Inv X pins σ H' s' → RelV v u → At ⟨X.K, fa, ca⟩ b e σ μ' loc' H' → Stp b μ loc H μ' loc' H' → RDat ⟨X.K, fa, ca⟩ μ' loc' H' d v → okP d μ' → Qf u s') :
    wpAny (model X.prog X.w) X.A (call (.ref (fa f)) us) Qf X.xe s := by
  refine wpAny_call (codeAny_mono (callA (Qf := Qf) g (g.room.mono (by omega)) I.env0 I a r rd b (Nat.le_refl _) a.hb hp hx kq) fun r s' hq => ?_)
  cases r with
  | error er => exact hq
  | ok fl => cases fl <;> exact hq

theorem clsf (g : Gd X fa ca P G b k n W) {c m f : Nat} (h : MI.methOf P c m = some f) : ∃ kk, P.clss[c]? = some kk ∧ ClsF X.K fa ca P G c kk := by
  unfold MI.methOf at h
  cases q : P.clss[c]? with
  | none => rw [q] at h; cases h
  | some kk => exact ⟨kk, rfl, g.facts.cls c kk q⟩
theorem clss (g : Gd X fa ca P G b k n W) {c m f : Nat} (h : MI.slotOf P c m = some f) : ∃ kk, P.clss[c]? = some kk ∧ ClsF X.K fa ca P G c kk := by
  unfold MI.slotOf at h
  cases q : P.clss[c]? with
  | none => rw [q] at h; cases h
  | some kk => exact ⟨kk, rfl, g.facts.cls c kk q⟩
theorem clsp (g : Gd X fa ca P G b k n W) {c m f : Nat} (h : MI.propOf P c m = some f) : ∃ kk, P.clss[c]? = some kk ∧ ClsF X.K fa ca P G c kk := by
  unfold MI.propOf at h
  cases q : P.clss[c]? with
  | none => rw [q] at h; cases h
  | some kk => exact ⟨kk, rfl, g.facts.cls c kk q⟩

/-! ### operators -/
def opOf : MI.Op2 → Operator
  | .add => .Add
  | .sub => .Sub
  | .mul => .Mult
  | .fdiv => .FloorDiv
  | .mod => .Mod
  | .pow => .Pow
theorem log_bits (i : Int) : Builtin.Int.intBits i ≤ i.natAbs.log2 + 1 := by
  unfold Builtin.Int.intBits
  split <;> omega
theorem opI_ok {op : MI.Op2} {i j z : Int} {t u : Tok} {M : Model} {A : Around} {Q : Value → Shared → Prop} {E : Value → Shared → Prop} {prog : Program} {w : World} (h : MI.opI op i j = some z)
    (q : Q (.int z s.toks) { s with toks := s.toks + 1 }) : wpAny (model prog w) A (binaryOp (opOf op) (.int i t) (.int j u)) Q E s := by
  cases op with
  | add => cases (Option.some.inj h); exact add_int q
  | sub => cases (Option.some.inj h); exact sub_int q
  | mul =>
    unfold MI.opI MI.mulOk at h
    dsimp only at h
    split at h
    · rename_i hz
      cases (Option.some.inj h)
      have hz := Nat.blt_eq.mp hz
      exact mul_int q (CMulW.ok (by unfold CMulW; omega))
    · cases h
  | fdiv =>
    unfold MI.opI MI.divOk at h
    dsimp only at h
    split at h
    · rename_i hz
      cases (Option.some.inj h)
      rw [Bool.and_eq_true] at hz
      have h1 : (0 : Int) < j := of_decide_eq_true hz.1
      have h2 := Nat.blt_eq.mp hz.2
      exact floordiv_int (by omega) (by rw [Int.fdiv_eq_ediv_of_nonneg i (by omega)]; exact q) (.inl (PyProof.noPylong_of_log2 (by omega)))
    · cases h
  | mod =>
    unfold MI.opI at h
    dsimp only at h
    split at h
    · rename_i hz
      cases (Option.some.inj h)
      have h1 : (0 : Int) < j := of_decide_eq_true hz
      exact mod_int' (by omega) (by rw [Int.fmod_eq_emod_of_nonneg i (by omega)]; exact q)
    · cases h
  | pow =>
    unfold MI.opI MI.powOk at h
    dsimp only at h
    split at h
    · rename_i hz
      cases (Option.some.inj h)
      rw [Bool.and_eq_true] at hz
      have h1 : (0 : Int) ≤ j := of_decide_eq_true hz.1
      have h2 := Nat.blt_eq.mp hz.2
      have hb := log_bits i
      refine pow_int h1 ?_ q
      have e : (Builtin.Int.intBits i : Int) * j = ((Builtin.Int.intBits i * j.toNat : Nat) : Int) := by
        rw [Int.natCast_mul, Int.toNat_of_nonneg h1]
      rw [e]
      have h3 : Builtin.Int.intBits i * j.toNat ≤ (i.natAbs.log2 + 1) * j.toNat := Nat.mul_le_mul_right _ hb
      have : ((2 : Int) ^ 27) = 134217728 := by decide
      omega
    · cases h
theorem dunder_at (g : Gd X fa ca P G b k n W) {op : MI.Op2} {m : Nat} (h : MI.dunder P op = some m) : G.at_[m]? = some (PySem.dunder (opOf op).info.2) := by
  cases op with
  | add => cases (Option.some.inj h); rw [g.facts.nAdd]; rfl
  | sub => cases (Option.some.inj h); rw [g.facts.nSub]; rfl
  | mul => cases (Option.some.inj h); rw [g.facts.nMul]; rfl
  | _ => cases h
theorem e_bin {op : MI.Op2} {x y : Ex} {ex ey : Expr} {pos : Pos} (g : Gd X fa ca P G b k n W) (hx : PE X ex (tE X fa ca P b k W x)) (hy : PE X ey (tE X fa ca P b k W y)) : PE X (.BinOp ex (opOf op) ey pos) (tE X fa ca P b k W (.bin op x y)) := by
  refine ⟨fun pins s σ H Q I ⟨e, μ, loc, a, h⟩ => ?_⟩
  refine wpAny_BinOp (run_E hx I a (post_bind h) (fun _ _ z => z) fun u s1 v H1 d μ1 loc1 I1 r1 a1 st1 rd1 h => ?_)
  refine run_E hy I1 a1 (post_bind h) (fun _ _ z => z.next st1) fun u2 s2 v2 H2 d2 μ2 loc2 I2 r2 a2 st2 rd2 h => ?_
  have rd1' := rd1.mono st2.keeps
  have st := st1.trans st2
  cases d with
  | int i =>
    cases d2 with
    | int j =>
      cases rd_int rd1'
      cases rd_int rd2
      obtain ⟨t, rfl⟩ := r1
      obtain ⟨t', rfl⟩ := r2
      obtain ⟨z, ez, h⟩ := post_ofO h
      obtain ⟨z', ez', rfl⟩ := Option.map_eq_some_iff.mp ez
      exact opI_ok (M := model X.prog X.w) ez' ⟨.int z', H2, I2.tok _, ⟨_, rfl⟩, h _ H2 loc2 a2.sim st (.int z')⟩
    | _ => exact h.elim
  | ins c ds =>
    cases d2 with
    | ins c' ds' =>
      unfold MI.op2 at h
      dsimp only at h
      split at h
      · have hc : c = c' := Nat.eq_of_beq_eq_true (by assumption)
        subst hc
        split at h
        · rename_i f hf
          obtain ⟨m, hm, hf⟩ := Option.bind_eq_some_iff.mp hf
          obtain ⟨kk, hk, F⟩ := clsf g hf
          obtain ⟨x, hx1, M⟩ := F.meth m f hf
          rw [dunder_at g hm] at hx1
          cases (Option.some.inj hx1)
          obtain ⟨a1', dx1, xs1, rfl, sl1, _⟩ := rd_ins rd1'
          obtain ⟨a2', dx2, xs2, rfl, sl2, _⟩ := rd_ins rd2
          cases (show u = Value.ref a1' from r1)
          cases (show u2 = Value.ref a2' from r2)
          obtain ⟨_, od1, _, J1, _⟩ := SlX.slt_inst I2 sl1
          obtain ⟨_, od2, _, J2, _⟩ := SlX.slt_inst I2 sl2
          obtain ⟨m', fr⟩ := I2.fr
          refine PySem.W.binop_K fr I2.ok.mod.kin J1 J2.type F.sf M.at_ M.fn ?_
          refine callw (vs := [.ref a1', .ref a2']) g I2 a2 (.cons rfl (.cons rfl .nil)) (.cons rd1' (.cons rd2 .nil)) (post_noEx h) (fun _ _ z => z.elim) fun u3 s3 v3 H3 d3 μ3 loc3 I3 r3 a3 st3 rd3 h3 => ?_
          exact SlX.cmpback r3 ⟨v3, H3, I3, r3, h3 _ H3 loc3 a3.sim (st.trans st3) rd3⟩
        · exact h.elim
      · exact h.elim
    | _ => exact h.elim
  | _ => cases d2 <;> exact h.elim
theorem e_neg {x : Ex} {ex : Expr} {pos : Pos} (g : Gd X fa ca P G b k n W) (hx : PE X ex (tE X fa ca P b k W x)) : PE X (.UnaryOp .USub ex pos) (tE X fa ca P b k W (.neg x)) := by
  refine ⟨fun pins s σ H Q I ⟨e, μ, loc, a, h⟩ => ?_⟩
  refine UnaryOp_ (run_E hx I a (post_bind h) (fun _ _ z => z) fun u s1 v H1 d μ1 loc1 I1 r1 a1 st1 rd1 h => ?_)
  cases d with
  | int i =>
    cases rd_int rd1
    obtain ⟨t, rfl⟩ := r1
    exact neg_int ⟨.int (-i), H1, I1.tok _, ⟨_, rfl⟩, h _ H1 loc1 a1.sim st1 (.int _)⟩
  | ins c ds =>
    dsimp only at h
    split at h
    · rename_i f hf
      obtain ⟨kk, hk, F⟩ := clsf g hf
      obtain ⟨x, hx1, M⟩ := F.meth _ f hf
      rw [g.facts.nNeg] at hx1
      cases (Option.some.inj hx1)
      obtain ⟨a1', dx1, xs1, rfl, sl1, _⟩ := rd_ins rd1
      cases (show u = Value.ref a1' from r1)
      obtain ⟨_, od1, _, J1, _⟩ := SlX.slt_inst I1 sl1
      obtain ⟨m', fr⟩ := I1.fr
      refine PySem.W.ksp_neg fr I1.ok.mod.kin J1 M.at_ M.fn ?_
      refine callw (vs := [.ref a1']) g I1 a1 (.cons rfl .nil) (.cons rd1 .nil) (post_noEx h) (fun _ _ z => z.elim) fun u3 s3 v3 H3 d3 μ3 loc3 I3 r3 a3 st3 rd3 h3 => ?_
      exact ⟨v3, H3, I3, r3, h3 _ H3 loc3 a3.sim (st1.trans st3) rd3⟩
    · exact h.elim
  | _ => exact h.elim
end
end MS

set_option maxRecDepth 100000
set_option maxHeartbeats 1000000
/-! UwSound3: comparisons, calls, attributes, built-ins, tests. -/
namespace MS
open PySem PySem.Spec PyProof.Rows L2
open MI (D SO Store R SR Ex Ts Sm TgN)

mutual
theorem py_ok {A : Ad} {loc : Loc} {Z : Addr → Prop} {H : Hp} : ∀ {d : D} {v : V} {p : PyData}, RD A loc Z H d v → d.py = some p → Dp A.K H v p
  | _, _, _, .non, h => by cases (Option.some.inj h); exact .non
  | _, _, _, .bl b, h => by cases (Option.some.inj h); exact .bl b
  | _, _, _, .int i, h => by cases (Option.some.inj h); exact .int i
  | _, _, _, .str s, h => by cases (Option.some.inj h); exact .str s
  | _, _, _, .tupH h1 z r, h => by
    obtain ⟨l, e, rfl⟩ := Option.map_eq_some_iff.mp h
    exact .tup (.inl h1) (py_okL r e)
  | _, _, _, .tupK h1 r, h => by
    obtain ⟨l, e, rfl⟩ := Option.map_eq_some_iff.mp h
    exact .tup (.inr h1) (py_okL r e)
  | _, _, _, .lstH h1 z r, h => by
    obtain ⟨l, e, rfl⟩ := Option.map_eq_some_iff.mp h
    exact .lst (.inl h1) (py_okL r e)
  | _, _, _, .lstK h1 r, h => by
    obtain ⟨l, e, rfl⟩ := Option.map_eq_some_iff.mp h
    exact .lst (.inr h1) (py_okL r e)
  | _, _, _, .ref _, h => nomatch h
  | _, _, _, .ins _ _ _ _ _, h => nomatch h
  | _, _, _, .fn _, h => nomatch h
  | _, _, _, .cls _, h => nomatch h
  | _, _, _, .ty _, h => nomatch h
theorem py_okL {A : Ad} {loc : Loc} {Z : Addr → Prop} {H : Hp} : ∀ {ds : List D} {vs : List V} {ps : List PyData}, RDs A loc Z H ds vs → D.pyL ds = some ps → DpAll A.K H vs ps
  | _, _, _, .nil, h => by cases (Option.some.inj h); exact .nil
  | _, _, _, .cons r t, h => by
    obtain ⟨p, e1, h⟩ := Option.bind_eq_some_iff.mp h
    obtain ⟨ps, e2, rfl⟩ := Option.map_eq_some_iff.mp h
    exact .cons (py_ok r e1) (py_okL t e2)
end
theorem deq_ok {A : Ad} {loc : Loc} {Z : Addr → Prop} {H : Hp} {x y : D} {v u : V} {c : Bool} (rx : RD A loc Z H x v) (ry : RD A loc Z H y u) (h : MI.deq x y = some c) :
    ∃ d e, Dp A.K H v d ∧ Dp A.K H u e ∧ SeqAt.shaped d = true ∧ SeqAt.shaped e = true ∧ c = PyData.eqv d e := by
  unfold MI.deq at h
  cases hx : x.py with
  | none => rw [hx] at h; cases h
  | some p =>
    cases hy : y.py with
    | none => rw [hx, hy] at h; cases h
    | some q =>
      rw [hx, hy] at h
      dsimp only at h
      split at h
      · rename_i hz
        rw [Bool.and_eq_true] at hz
        exact ⟨p, q, py_ok rx hx, py_ok ry hy, hz.1, hz.2, (Option.some.inj h).symm⟩
      · cases h

section
variable {X : Cx} {fa ca : Nat → Addr} {P : MI.Prog} {G : Gn} {b k n : Nat} {W : WX}
variable {pins : List (Addr × Obj)} {s : Shared} {σ : L2.St} {H : Hp} {e : MI.Env} {μ : Store} {loc : Loc}
def cpOf : MI.Cp → CmpOp
  | .eq => .Eq
  | .ne => .NotEq
  | .lt => .Lt
  | .le => .LtE
  | .gt => .Gt
  | .ge => .GtE
theorem cmpI_ok {op : MI.Cp} {i j : Int} {t u : Tok} {Q : Value → Shared → Prop} {E : Value → Shared → Prop} {A : Around} {prog : Program} {w : World} (q : Q (.bool (MI.cmpI op i j)) s) : wpAny (model prog w) A (compareOp (cpOf op) (.int i t) (.int j u)) Q E s := by
  cases op with
  | eq => exact eq_int (by rw [Bool.beq_eq_decide_eq]; exact q)
  | ne => exact ne_int (by rw [bne, Bool.beq_eq_decide_eq]; exact q)
  | lt => exact lt_int q
  | le => exact le_int q
  | gt => exact gt_int q
  | ge => exact ge_int q
theorem bl_of {r : Value} {c : Bool} (h : RelV (.bl c) r) : r = .bool c := h
theorem ty_ok {A : Ad} {pins : List (Addr × Obj)} (I : Inv X pins σ H s) {d : D} {v : V} {u : Value} {t : String} (hA : A.K = X.K) (r : RelV v u) (rd : RDat A μ loc H d v) (h : MI.tyOf d = some t) :
    ["NoneType", "int", "bool", "str", "tuple", "list", "dict"].contains t = true ∧ ∀ M, PySem.W.Looks M s.heap (typeOf u) (.type t) := by
  cases rd with
  | non => cases (Option.some.inj h); cases r; exact ⟨by decide, fun M => .of_pure rfl⟩
  | bl x => cases (Option.some.inj h); cases r; exact ⟨by decide, fun M => .of_pure rfl⟩
  | int i => cases (Option.some.inj h); obtain ⟨t, rfl⟩ := r; exact ⟨by decide, fun M => .of_pure rfl⟩
  | str z => cases (Option.some.inj h); obtain ⟨t, rfl⟩ := r; exact ⟨by decide, fun M => .of_pure rfl⟩
  | tupH h1 z rr =>
    cases (Option.some.inj h)
    obtain rfl := r
    obtain ⟨its, _, ⟨o, ho, hc, _⟩, _⟩ := I.tuple (.inl h1)
    exact ⟨by decide, fun M A Q E s' k q => wpAny_typeOf_ref (k _ _ ho) (by rw [hc]; exact q)⟩
  | tupK h1 rr =>
    cases (Option.some.inj h)
    obtain rfl := r
    rw [hA] at h1
    obtain ⟨its, _, ⟨o, ho, hc, _⟩, _⟩ := I.tuple (.inr h1)
    exact ⟨by decide, fun M A Q E s' k q => wpAny_typeOf_ref (k _ _ ho) (by rw [hc]; exact q)⟩
  | lstH h1 z rr =>
    cases (Option.some.inj h)
    obtain rfl := r
    obtain ⟨its, _, ⟨o, n, ho, hc, _⟩, _⟩ := I.list (.inl h1)
    exact ⟨by decide, fun M A Q E s' k q => wpAny_typeOf_ref (k _ _ ho) (by rw [hc]; exact q)⟩
  | lstK h1 rr =>
    cases (Option.some.inj h)
    obtain rfl := r
    rw [hA] at h1
    obtain ⟨its, _, ⟨o, n, ho, hc, _⟩, _⟩ := I.list (.inr h1)
    exact ⟨by decide, fun M A Q E s' k q => wpAny_typeOf_ref (k _ _ ho) (by rw [hc]; exact q)⟩
  | _ => cases h
theorem right_ok (g : Gd X fa ca P G b k n W) {pins : List (Addr × Obj)} (I : Inv X pins σ H s) {c : Nat} {kk : MI.Cls} {d : D} {v : V} {u : Value} (F : ClsF X.K fa ca P G c kk) (r : RelV v u) (rd : RDat ⟨X.K, fa, ca⟩ μ loc H d v) (h : MI.rightOk P d = true) :
    ∃ tb, PySem.W.Looks (model X.prog X.w) s.heap (typeOf u) tb ∧ PySem.W.notFirst X.K (ca c) tb = true := by
  by_cases hi : ∃ c' ds', d = .ins c' ds'
  · obtain ⟨c', ds', rfl⟩ := hi
    obtain ⟨kk', hk'⟩ := Option.isSome_iff_exists.mp h
    obtain ⟨a2', dx2, xs2, rfl, sl2, _⟩ := rd_ins rd
    cases (show u = Value.ref a2' from r)
    obtain ⟨_, od2, _, J2, _⟩ := SlX.slt_inst I sl2
    exact ⟨_, J2.type, F.nf c' kk' hk'⟩
  · have h' : (MI.tyOf d).isSome = true := by
      cases d <;> first | exact h | exact absurd ⟨_, _, rfl⟩ hi
    obtain ⟨t, ht⟩ := Option.isSome_iff_exists.mp h'
    obtain ⟨h1, h2⟩ := ty_ok I rfl r rd ht
    exact ⟨_, h2 _, F.nft t h1⟩
/-- a comparison of two values -/
theorem cmp_ok {op : MI.Cp} {d d2 : D} {v v2 : V} {u u2 : Value} {okP exP} {Qf : Value → Shared → Prop} (g : Gd X fa ca P G b k n W) (I : Inv X pins σ H s) (r1 : RelV v u) (r2 : RelV v2 u2) (a : At ⟨X.K, fa, ca⟩ b e σ μ loc H)
    (rd1 : RDat ⟨X.K, fa, ca⟩ μ loc H d v) (rd2 : RDat ⟨X.K, fa, ca⟩ μ loc H d2 v2) (h : post (MI.cmp2 P (MI.callN P k) b op d d2 μ) okP exP)
    (kq : ∀ c s' H' μ' loc', Inv X pins σ H' s' → At ⟨X.K, fa, ca⟩ b e σ μ' loc' H' → Stp b μ loc H μ' loc' H' → okP (.bl c) μ' → Qf (.bool c) s') :
    wpAny (model X.prog X.w) X.A (compareOp (cpOf op) u u2) Qf X.xe s := by
  have own : ∀ c ds, d = .ins c ds → wpAny (model X.prog X.w) X.A (compareOp (cpOf op) u u2) Qf X.xe s := fun c ds hd => by
    subst hd
    unfold MI.cmp2 MI.cmpO at h
    dsimp only at h
    split at h
    · rename_i hro
      split at h
      · rename_i f hf
        obtain ⟨kk, hk, F⟩ := clsf g hf
        obtain ⟨x, hx1, M⟩ := F.meth _ f hf
        rw [g.facts.nEq] at hx1
        cases (Option.some.inj hx1)
        obtain ⟨a1', dx1, xs1, rfl, sl1, _⟩ := rd_ins rd1
        cases (show u = Value.ref a1' from r1)
        obtain ⟨_, od1, _, J1, _⟩ := SlX.slt_inst I sl1
        obtain ⟨m', fr⟩ := I.fr
        obtain ⟨tb, L2', nf⟩ : ∃ tb, PySem.W.Looks (model X.prog X.w) s.heap (typeOf u2) tb ∧ PySem.W.notFirst X.K (ca c) tb = true := right_ok g I F r2 rd2 hro
        cases op with
        | eq =>
          show wpAny _ _ (richCompare .Eq _ _) _ _ _
          refine PySem.W.cmp_K g.room.units0 fr I.ok.mod.kin J1 L2' nf M.at_ M.fn ?_
          refine callw (vs := [.ref a1', v2]) g I a (.cons rfl (.cons r2 .nil)) (.cons rd1 (.cons rd2 .nil)) (post_blR h) (fun _ _ z => z.elim) fun u3 s3 v3 H3 d3 μ3 loc3 I3 r3 a3 st3 rd3 ⟨c3, e3, ok⟩ => ?_
          subst e3
          cases rd_bl rd3
          cases (show u3 = Value.bool c3 from r3)
          exact kq c3 s3 H3 μ3 loc3 I3 a3 st3 ok
        | ne =>
          show wpAny _ _ (richCompare .NotEq _ _) _ _ _
          have hun := g.room.units
          refine ne_K (by omega) fr I.ok.mod.kin J1 L2' nf F.ne F.si.cm M.at_ M.fn ?_
          have hr1 : Room n X.A.in1 := (g.room.mono (show n + 1 ≤ n + 3 by omega)).in1
          refine wpAny_call (codeAny_mono (callA (e := e) (vs := [.ref a1', v2]) (Qf := fun v s' => ∃ c, v = .bool c ∧ Qf (.bool (!c)) s') g hr1 I.env0.in1 I a (.cons rfl (.cons r2 .nil)) (.cons rd1 (.cons rd2 .nil)) b (Nat.le_refl _) a.hb (post_notR h) (fun _ _ z => z.elim) fun u3 s3 v3 H3 d3 μ3 loc3 I3 r3 a3 st3 rd3 ⟨c3, e3, ok⟩ => ?_) fun r s' hq => ?_)
          · subst e3
            cases rd_bl rd3
            exact ⟨c3, r3, kq _ s3 H3 μ3 loc3 I3 a3 st3 ok⟩
          · cases r with
            | error er => exact hq
            | ok fl => cases fl <;> exact hq
        | _ => exact h.elim
      · exact h.elim
    · exact h.elim
  have data : (∀ c, MI.deq d d2 = some c → op = .eq → okP (.bl c) μ → wpAny (model X.prog X.w) X.A (compareOp (cpOf op) u u2) Qf X.xe s) ∧
      (∀ c, MI.deq d d2 = some c → op = .ne → okP (.bl (!c)) μ → wpAny (model X.prog X.w) X.A (compareOp (cpOf op) u u2) Qf X.xe s) := by
    refine ⟨fun c hc ho ok => ?_, fun c hc ho ok => ?_⟩
    · subst ho
      obtain ⟨p, q, d1, d2, s1, s2, rfl⟩ := deq_ok rd1 rd2 hc
      refine thn (op_eqD (g.room.units) pins s σ H v v2 u u2 (fun z H' => z = .bl (PyData.eqv p q) ∧ H' = H) I r1 r2 ⟨p, q, d1, d2, s1, s2, rfl, rfl⟩) fun r s' ⟨z, H', I', rz, ez, eH⟩ => ?_
      subst ez eH
      cases rz
      exact kq _ s' H' μ loc I' a .refl ok
    · subst ho
      obtain ⟨p, q, d1, d2, s1, s2, rfl⟩ := deq_ok rd1 rd2 hc
      refine thn (op_neD (g.room.units) pins s σ H v v2 u u2 (fun z H' => z = .bl (!PyData.eqv p q) ∧ H' = H) I r1 r2 ⟨p, q, d1, d2, s1, s2, rfl, rfl⟩) fun r s' ⟨z, H', I', rz, ez, eH⟩ => ?_
      subst ez eH
      cases rz
      exact kq _ s' H' μ loc I' a .refl ok
  have dat2 : post (match op with
    | .eq => MI.ofO μ ((MI.deq d d2).map .bl)
    | .ne => MI.ofO μ ((MI.deq d d2).map fun b => .bl (!b))
    | _ => .no) okP exP → wpAny (model X.prog X.w) X.A (compareOp (cpOf op) u u2) Qf X.xe s := fun h => by
    cases op with
    | eq =>
      obtain ⟨z, ez, ok⟩ := post_ofO h
      obtain ⟨c, hc, rfl⟩ := Option.map_eq_some_iff.mp ez
      exact data.1 c hc rfl ok
    | ne =>
      obtain ⟨z, ez, ok⟩ := post_ofO h
      obtain ⟨c, hc, rfl⟩ := Option.map_eq_some_iff.mp ez
      exact data.2 c hc rfl ok
    | _ => exact h.elim
  cases d with
  | int i =>
    cases d2 with
    | int j =>
      cases rd_int rd1
      cases rd_int rd2
      obtain ⟨t, rfl⟩ := r1
      obtain ⟨t', rfl⟩ := r2
      exact cmpI_ok (kq _ s H μ loc I a .refl h)
    | _ => exact dat2 h
  | ins c ds => exact own c ds rfl
  | _ => cases d2 <;> exact dat2 h
theorem e_cmp {op : MI.Cp} {x y : Ex} {ex ey : Expr} {pos : Pos} (g : Gd X fa ca P G b k n W) (hx : PE X ex (tE X fa ca P b k W x)) (hy : PE X ey (tE X fa ca P b k W y)) : PE X (.Compare ex [cpOf op] [ey] pos) (tE X fa ca P b k W (.cmp op x y)) := by
  refine ⟨fun pins s σ H Q I ⟨e, μ, loc, a, h⟩ => ?_⟩
  refine wpAny_Compare1 (run_E hx I a (post_bind h) (fun _ _ z => z) fun u s1 v H1 d μ1 loc1 I1 r1 a1 st1 rd1 h => ?_) (by cases op <;> exact nomark _)
  refine run_E hy I1 a1 (post_bind h) (fun _ _ z => z.next st1) fun u2 s2 v2 H2 d2 μ2 loc2 I2 r2 a2 st2 rd2 h => ?_
  exact cmp_ok g I2 r1 r2 a2 (rd1.mono st2.keeps) rd2 h fun c s3 H3 μ3 loc3 I3 a3 st3 ok => ⟨.bl c, H3, I3, rfl, ok _ H3 loc3 a3.sim ((st1.trans st2).trans st3) (.bl c)⟩
theorem t_cmp {op : MI.Cp} {x y : Ex} {ex ey : Expr} {pos : Pos} (g : Gd X fa ca P G b k n W) (hx : PE X ex (tE X fa ca P b k W x)) (hy : PE X ey (tE X fa ca P b k W y)) : PT X (.Compare ex [cpOf op] [ey] pos) (tT X fa ca P b k W (.val (.cmp op x y))) := by
  refine ⟨fun pins s σ H Q I ⟨e, μ, loc, a, h⟩ => ?_⟩
  refine wpAny_isTrue_Compare1 (run_E hx I a (post_bind (post_bind h)) (fun _ _ z => z) fun u s1 v H1 d μ1 loc1 I1 r1 a1 st1 rd1 h => ?_) (by cases op <;> exact nomark _)
  refine run_E hy I1 a1 (post_bind h) (fun _ _ z => z.next st1) fun u2 s2 v2 H2 d2 μ2 loc2 I2 r2 a2 st2 rd2 h => ?_
  refine cmp_ok g I2 r1 r2 a2 (rd1.mono st2.keeps) rd2 h fun c s3 H3 μ3 loc3 I3 a3 st3 ok => ?_
  obtain ⟨c', ec, ok⟩ := post_ofO ok
  cases (Option.some.inj ec)
  exact wpAny_truthy_bool ⟨H3, I3, ok H3 loc3 a3.sim ((st1.trans st2).trans st3)⟩
end
end MS

set_option maxRecDepth 100000
set_option maxHeartbeats 1000000
/-! UwSound4: calls, attributes, items, built-ins, tests. -/
namespace MS
open PySem PySem.Spec PyProof.Rows L2
open MI (D SO Store R SR Ex Ts Sm TgN)

def noStar : Expr → Bool
  | .Starred _ _ => false
  | _ => true
theorem star_cons {e : Expr} {es : List Expr} {env : Env} (h : noStar e = true) : starEach (e :: es) env = (false, eval e env) :: starEach es env := by
  cases e <;> first | rfl | cases h
theorem star_plain {pos : Pos} {env : Env} : ∀ {es : List Expr}, es.all noStar = true → (backTo pos (starEach es env)).any (·.1) = false
  | [], _ => rfl
  | e :: es, h => by
    rw [List.all_cons, Bool.and_eq_true] at h
    rw [star_cons h.1]
    show (false || (backTo pos (starEach es env)).any (·.1)) = false
    rw [star_plain h.2]; rfl
theorem star_all {pos : Pos} {env : Env} : ∀ {es : List Expr}, es.all noStar = true → (backTo pos (starEach es env)).all (fun x => !x.1) = true
  | [], _ => rfl
  | e :: es, h => by
    rw [List.all_cons, Bool.and_eq_true] at h
    rw [star_cons h.1]
    show (true && (backTo pos (starEach es env)).all (fun x => !x.1)) = true
    rw [star_all h.2]; rfl
/-- is the receiver none that super's form asks of -/
def baseOk : Expr → Bool
  | .Call (.Name _ _) [] [] _ => false
  | _ => true
theorem base_of {o : Expr} {f : Str} {env : Env} (h : baseOk o = true) : attributeBase o f env (eval o env) = eval o env := by
  unfold attributeBase
  split
  · cases h
  · rfl
theorem mcall {o : Expr} {m : Str} {apos pos : Pos} {es : List Expr} {env : Env} (hb : baseOk o = true) (hs : es.all noStar = true) (hl : es.length < 30) (hline : (apos.endLine == pos.line) = true) :
    eval (.Call (.Attribute o m apos) es [] pos) env = (do
      let ov ← eval o env
      standAt apos.atName
      let (f, first) ← holding [ov] (getMethod ov m (do return (← importBound o env).getD true))
      callWith pos f first (backTo pos (starEach es env)) (backToKw pos (keywordEach [] env))) := by
  rw [arm_eval_Call, base_of hb]
  have hf : methodCallForm (es.length + ([] : List Keyword).length) (backTo pos (starEach es env)) (backToKw pos (keywordEach [] env)) = true := by
    unfold methodCallForm
    rw [star_all hs]
    show (true && true && decide (es.length + 0 + 0 < 30)) = true
    simp [hl]
  have hp : methodCallPos true o env apos pos = pure pos := by
    unfold methodCallPos
    rw [hline]; rfl
  unfold methodCall
  rw [hf, hp]
  rfl

section
variable {X : Cx} {fa ca : Nat → Addr} {P : MI.Prog} {G : Gn} {b k n : Nat} {W : WX}
variable {pins : List (Addr × Obj)} {s : Shared} {σ : L2.St} {H : Hp} {e : MI.Env} {μ : Store} {loc : Loc}
/-- the written arguments, then the call -/
theorem cw_args {f : Value} {first : List Value} {irs : List Ex} {es : List Expr} {pos : Pos} {okP : List D → Store → Prop} {exP : D → Store → Prop} {Qf : Value → Shared → Prop} (hk : PySem.W.keepIn X.K f = true)
    (h : PA X es (tL X fa ca P b k W irs)) (hlen : irs.length = es.length) (hs : es.all noStar = true) (I : Inv X pins σ H s) (a : At ⟨X.K, fa, ca⟩ b e σ μ loc H)
    (hp : post (MI.evL P (MI.callN P k) b irs e μ) okP exP) (hx : ∀ x μ', exP x μ' → ExW ⟨X.K, fa, ca⟩ b μ loc H (fun cls d H' => W cls d σ H') x μ')
    (kq : ∀ us s' vs H' ds μ' loc', Inv X pins σ H' s' → Vals vs us → At ⟨X.K, fa, ca⟩ b e σ μ' loc' H' → Stp b μ loc H μ' loc' H' → RDsat ⟨X.K, fa, ca⟩ μ' loc' H' ds vs → okP ds μ' →
      wpAny (model X.prog X.w) X.A (call f (first ++ us)) Qf X.xe s') :
    wpAny (model X.prog X.w) X.A (callWith pos f first (backTo pos (starEach es X.env)) (backToKw pos (keywordEach [] X.env))) Qf X.xe s := by
  cases es with
  | nil =>
    cases irs with
    | cons _ _ => cases hlen
    | nil => exact PySem.W.callWith_K0 I.kIn hk (kq [] s [] H [] μ loc I .nil a .refl .nil hp)
  | cons e0 er =>
    rw [List.all_cons, Bool.and_eq_true] at hs
    exact PySem.W.callWith_K (h₀ := X.base) I.ok.mod.kin hk (run_L (pos := pos) h I a hp hx fun us s' vs H' ds μ' loc' I' r a' st rd ok => ⟨I'.kIn, kq us s' vs H' ds μ' loc' I' r a' st rd ok⟩) (star_cons hs.1) (star_plain hs.2)
/-! ### calls of the text's own -/
theorem e_call {f : Nat} {x : Str} {irs : List Ex} {es : List Expr} {p pos : Pos} (g : Gd X fa ca P G b k n W) (hn : G.fn[f]? = some (some x)) (hg : Gl X x) (hd : (x == ("__debug__" : Str)) = false)
    (h : PA X es (tL X fa ca P b k W irs)) (hlen : irs.length = es.length) (hs : es.all noStar = true) : PE X (.Call (.Name x p) es [] pos) (tE X fa ca P b k W (.call f irs)) := by
  refine ⟨fun pins s σ H Q I ⟨e, μ, loc, a, hp⟩ => ?_⟩
  obtain ⟨hm, hk⟩ := g.facts.fn f x hn
  refine wpAny_Call_Name_kw (ld_glob I hg hm ?_ hd)
  refine cw_args (first := []) hk h hlen hs I a (post_bind hp) (fun _ _ z => z) fun us s1 vs H1 ds μ1 loc1 I1 r1 a1 st1 rd1 h1 => ?_
  exact callw g I1 a1 r1 rd1 h1 (fun _ _ z => z.next st1) fun u s2 v H2 d μ2 loc2 I2 r2 a2 st2 rd2 ok => ⟨v, H2, I2, r2, ok v H2 loc2 a2.sim (st1.trans st2) rd2⟩
theorem e_meth {m : Nat} {x : Str} {o : Ex} {eo : Expr} {irs : List Ex} {es : List Expr} {p pos : Pos} (g : Gd X fa ca P G b k n W) (hn : G.at_[m]? = some x) (ho : PE X eo (tE X fa ca P b k W o)) (hb : baseOk eo = true)
    (h : PA X es (tL X fa ca P b k W irs)) (hlen : irs.length = es.length) (hs : es.all noStar = true) (hl : es.length < 30) (hline : (p.endLine == pos.line) = true) : PE X (.Call (.Attribute eo x p) es [] pos) (tE X fa ca P b k W (.meth m o irs)) := by
  refine ⟨fun pins s σ H Q I ⟨e, μ, loc, a, hp⟩ => ?_⟩
  refine PySem.W.methodCall_KW (run_E ho I a (post_bind hp) (fun _ _ z => z) fun u s1 v H1 d μ1 loc1 I1 r1 a1 st1 rd1 h1 => ?_) (mcall hb hs hl hline)
  cases d with
  | ins c ds =>
    dsimp only at h1
    split at h1
    · rename_i f hf
      obtain ⟨kk, hk, F⟩ := clsf g hf
      obtain ⟨x', hx1, M⟩ := F.meth _ f hf
      rw [hn] at hx1
      cases (Option.some.inj hx1)
      obtain ⟨a1', dx1, xs1, rfl, sl1, _⟩ := rd_ins rd1
      cases (show u = Value.ref a1' from r1)
      refine SlX.getmethsl_ok I1 sl1 F.sc M ?_
      refine cw_args (first := [.ref a1']) M.kp h hlen hs I1 a1 (post_bind h1) (fun _ _ z => z.next st1) fun us s2 vs H2 ds2 μ2 loc2 I2 r2 a2 st2 rd2 h2 => ?_
      exact callw (us := .ref a1' :: us) (vs := .ref a1' :: vs) g I2 a2 (.cons rfl r2) (.cons (rd1.mono st2.keeps) rd2) h2 (fun _ _ z => z.next (st1.trans st2)) fun u3 s3 v3 H3 d3 μ3 loc3 I3 r3 a3 st3 rd3 ok =>
        ⟨v3, H3, I3, r3, ok v3 H3 loc3 a3.sim ((st1.trans st2).trans st3) rd3⟩
    · exact h1.elim
  | _ => exact h1.elim

/-! ### attributes -/
theorem e_attr {m : Nat} {x : Str} {o : Ex} {eo : Expr} {pos : Pos} (g : Gd X fa ca P G b k n W) (hn : G.at_[m]? = some x) (ho : PE X eo (tE X fa ca P b k W o)) (hb : baseOk eo = true) : PE X (.Attribute eo x pos) (tE X fa ca P b k W (.attr m o)) := by
  refine ⟨fun pins s σ H Q I ⟨e, μ, loc, a, hp⟩ => ?_⟩
  refine attr_of (base_of hb) (run_E ho I a (post_bind hp) (fun _ _ z => z) fun u s1 v H1 d μ1 loc1 I1 r1 a1 st1 rd1 h1 => ?_)
  cases d with
  | ins c ds =>
    obtain ⟨a1', dx1, xs1, rfl, sl1, rds⟩ := rd_ins rd1
    cases (show u = Value.ref a1' from r1)
    unfold MI.attrC at h1
    dsimp only at h1
    split at h1
    · rename_i i hi
      obtain ⟨d, hd, h1⟩ := post_ofO h1
      obtain ⟨kk, hk, F⟩ := clss g hi
      obtain ⟨x', p', hx1, S⟩ := F.slot _ i hi
      rw [hn] at hx1
      cases (Option.some.inj hx1)
      obtain ⟨w, hw, rw'⟩ := rds.get hd
      refine SlX.getslot_ok I1 sl1 F.sc S (v := w) (by rw [List.getElem?_map, hw]; rfl) fun u' s' I' r' => ?_
      exact ⟨w, H1, I', r', h1 w H1 loc1 a1.sim st1 rw'⟩
    · split at h1
      · rename_i f hf
        obtain ⟨kk, hk, F⟩ := clsp g hf
        obtain ⟨x', p', hx1, q1, q2, q3, q4⟩ := F.prop _ f hf
        rw [hn] at hx1
        cases (Option.some.inj hx1)
        refine SlX.getprop_sl (CX := L2.CX X.prog X.w) (E := E0) (sp := spF ⟨X.K, fa, ca⟩ P k b f) I1 sl1 F.sc q1 q2 q3 q4 (g.fns b f) (g.room.mono (by omega)) (fun H s e s' z => ?_) ?_
        · obtain ⟨_, _, _, _, _, _, _, _, _, _, _, _, z⟩ := z
          exact z.elim
        · exact ⟨[.ins c ds], μ1, loc1, a1.sim, a1.hb, .cons rd1 .nil, post_mono (post_noEx h1) (fun d2 μ2 ok v2 H2 loc2 S2 st2 rd2 => ok v2 H2 loc2 S2 (st1.trans st2) rd2) fun _ _ z => z.elim⟩
      · exact h1.elim
  | ref j =>
    unfold MI.attrC at h1
    dsimp only at h1
    cases hj : μ1[j]? with
    | none => rw [hj] at h1; exact h1.elim
    | some so =>
      rw [hj] at h1
      cases so with
      | obj c fs =>
        dsimp only at h1
        split at h1
        · rename_i i hi
          obtain ⟨d, hd, h1⟩ := post_ofO h1
          obtain ⟨kk, hk, F⟩ := clss g hi
          obtain ⟨x', p', hx1, S⟩ := F.slot _ i hi
          rw [hn] at hx1
          cases (Option.some.inj hx1)
          cases rd1 with
          | @ref _ q hl =>
            cases (show u = Value.ref q.a from r1)
            obtain ⟨_, vs, sl, _, _, ro⟩ := a1.sim.rel j _ q hj hl
            have hd' : fs[i]? = some (some d) := by
              cases q' : fs[i]? with
              | none => rw [q'] at hd; cases hd
              | some o => rw [q'] at hd; exact congrArg some hd
            obtain ⟨w, hw, rw'⟩ := ro i d hd'
            refine SlX.getslot_ok I1 sl F.sc S (v := w) hw fun u' s' I' r' => ?_
            exact ⟨w, H1, I', r', h1 w H1 loc1 a1.sim st1 rw'⟩
        · exact h1.elim
      | _ => exact h1.elim
  | _ => exact h1.elim

/-! ### items -/
theorem ix_ixN {m : Nat} {i : Int} : MI.ix m i = ixN m i := rfl
theorem rd_items {ds : List D} {d : D} {v : V} (S : Sim ⟨X.K, fa, ca⟩ μ loc H) (rd : RDat ⟨X.K, fa, ca⟩ μ loc H d v) (h : MI.items μ d = some ds) : ∃ p xs, v = .ref p ∧ RDsat ⟨X.K, fa, ca⟩ μ loc H ds xs ∧ (SqL X.K H p xs ∨ SqT X.K H p xs) := by
  cases rd with
  | tupH h1 z r => cases (Option.some.inj h); exact ⟨_, _, rfl, r, .inr (.inl h1)⟩
  | tupK h1 r => cases (Option.some.inj h); exact ⟨_, _, rfl, r, .inr (.inr h1)⟩
  | lstH h1 z r => cases (Option.some.inj h); exact ⟨_, _, rfl, r, .inl (.inl h1)⟩
  | lstK h1 r => cases (Option.some.inj h); exact ⟨_, _, rfl, r, .inl (.inr h1)⟩
  | @ref i p hl =>
    unfold MI.items at h
    dsimp only at h
    cases q : μ[i]? with
    | none => rw [q] at h; cases h
    | some so =>
      rw [q] at h
      cases so with
      | lst ds' =>
        cases (Option.some.inj h)
        obtain ⟨xs, hx, r⟩ := S.rel i _ p q hl
        exact ⟨_, xs, rfl, r, .inl (.inl (.inl hx))⟩
      | _ => cases h
  | _ => cases h
def plainIx : Expr → Bool
  | .Slice _ _ _ _ => false
  | _ => true
theorem plain_ix {e : Expr} (h : plainIx e = true) : PlainIx e := fun o i => by
  cases e <;> first | rfl | cases h
theorem e_idx {o i : Ex} {eo ei : Expr} {pos : Pos} (ho : PE X eo (tE X fa ca P b k W o)) (hi : PE X ei (tE X fa ca P b k W i)) (hp : plainIx ei = true) : PE X (.Subscript eo ei pos) (tE X fa ca P b k W (.idx o i)) := by
  refine ⟨fun pins s σ H Q I ⟨e, μ, loc, a, h⟩ => ?_⟩
  refine Subscript_ (run_E ho I a (post_bind h) (fun _ _ z => z) fun u s1 v H1 d μ1 loc1 I1 r1 a1 st1 rd1 h => ?_)
  refine run_E hi I1 a1 (post_bind h) (fun _ _ z => z.next st1) fun u2 s2 v2 H2 d2 μ2 loc2 I2 r2 a2 st2 rd2 h => ?_
  have rd1' := rd1.mono st2.keeps
  have st := st1.trans st2
  cases d2 with
  | int j =>
    cases rd_int rd2
    obtain ⟨d3, e3, h⟩ := post_ofO h
    obtain ⟨ds, e4, e3⟩ := Option.bind_eq_some_iff.mp e3
    obtain ⟨jj, e5, e3⟩ := Option.bind_eq_some_iff.mp e3
    obtain ⟨p, xs, rfl, rds, hq⟩ := rd_items a2.sim rd1' e4
    obtain ⟨w, hw, rw'⟩ := rds.get e3
    have hat : atI xs j = some w := by
      unfold atI
      rw [← rds.length, ← ix_ixN, e5]
      exact hw
    rcases hq with hq | hq
    · exact ix_list eo ei pins s2 σ H2 _ _ u u2 Q I2 r1 r2 ⟨p, xs, j, w, rfl, rfl, hq, hat, h w H2 loc2 a2.sim st rw'⟩ (plain_ix hp _ _)
    · exact ix_tup eo ei pins s2 σ H2 _ _ u u2 Q I2 r1 r2 ⟨p, xs, j, w, rfl, rfl, hq, hat, h w H2 loc2 a2.sim st rw'⟩ (plain_ix hp _ _)
  | _ => exact h.elim
end
end MS

set_option maxRecDepth 100000
set_option maxHeartbeats 1000000
/-! UwSound5: tests, truth, and, or, not, new objects, built-ins. -/
namespace MS
open PySem PySem.Spec PyProof.Rows L2
open MI (D SO Store R SR Ex Ts Sm TgN)

section
variable {X : Cx} {fa ca : Nat → Addr} {P : MI.Prog} {G : Gn} {b k n : Nat} {W : WX}
variable {pins : List (Addr × Obj)} {s : Shared} {σ : L2.St} {H : Hp} {e : MI.Env} {μ : Store} {loc : Loc}

theorem rd_isN {A : Ad} {d : D} {v : V} (r : RDat A μ loc H d v) : decide (v = .non) = MI.isNonD d := by
  cases r <;> first | rfl | simp
theorem e_isN {x : Ex} {ex : Expr} {j : Nat} {pos pos' : Pos} (hx : PE X ex (tE X fa ca P b k W x)) : PE X (.Compare ex [.Is] [.Constant .none j pos'] pos) (tE X fa ca P b k W (.isN x)) := by
  refine ⟨fun pins s σ H Q I ⟨e, μ, loc, a, h⟩ => ?_⟩
  refine wpAny_Compare1 (run_E hx I a (post_bind h) (fun _ _ z => z) fun u s1 v H1 d μ1 loc1 I1 r1 a1 st1 rd1 h => ?_) (nobehind _ (by decide) (by decide))
  have h := h _ H1 loc1 a1.sim st1 (.bl _)
  refine Constant_none (is_none_gen ⟨.bl _, H1, I1, ?_, h⟩)
  rw [r1.none_iff, rd_isN rd1]
  rfl
theorem e_notN {x : Ex} {ex : Expr} {j : Nat} {pos pos' : Pos} (hx : PE X ex (tE X fa ca P b k W x)) : PE X (.Compare ex [.IsNot] [.Constant .none j pos'] pos) (tE X fa ca P b k W (.notN x)) := by
  refine ⟨fun pins s σ H Q I ⟨e, μ, loc, a, h⟩ => ?_⟩
  refine wpAny_Compare1 (run_E hx I a (post_bind h) (fun _ _ z => z) fun u s1 v H1 d μ1 loc1 I1 r1 a1 st1 rd1 h => ?_) (nobehind _ (by decide) (by decide))
  have h := h _ H1 loc1 a1.sim st1 (.bl _)
  refine Constant_none (isnot_none_gen ⟨.bl _, H1, I1, ?_, h⟩)
  rw [r1.none_iff, rd_isN rd1]
  rfl
/-- truth -/
theorem tru {d : D} {v : V} {u : Value} {c : Bool} {Qf : Bool → Shared → Prop} (I : Inv X pins σ H s) (S : Sim ⟨X.K, fa, ca⟩ μ loc H) (r : RelV v u) (rd : RDat ⟨X.K, fa, ca⟩ μ loc H d v) (h : MI.truth μ d = some c) (q : ∀ s', Inv X pins σ H s' → Qf c s') :
    wpAny (model X.prog X.w) X.A (truthy u) Qf X.xe s := by
  refine thn (tru_ok pins s σ H v u (fun k H' => k = c ∧ H' = H) I r ⟨c, truth_ok S rd h, rfl, rfl⟩) fun k s' ⟨H', I', e1, e2⟩ => ?_
  subst e1 e2
  exact q s' I'
theorem e_not {x : Ex} {ex : Expr} {pos : Pos} (hx : PE X ex (tE X fa ca P b k W x)) : PE X (.UnaryOp .Not ex pos) (tE X fa ca P b k W (.not x)) := by
  refine ⟨fun pins s σ H Q I ⟨e, μ, loc, a, h⟩ => ?_⟩
  refine UnaryOp_ (run_E hx I a (post_bind h) (fun _ _ z => z) fun u s1 v H1 d μ1 loc1 I1 r1 a1 st1 rd1 h => ?_)
  obtain ⟨z, ez, h⟩ := post_ofO h
  obtain ⟨c, ec, rfl⟩ := Option.map_eq_some_iff.mp ez
  exact not_of (tru I1 a1.sim r1 rd1 ec fun s2 I2 => ⟨.bl (!c), H1, I2, rfl, h _ H1 loc1 a1.sim st1 (.bl _)⟩)

/-! ### lists of readings -/
variable (X fa ca P b k W) in
abbrev PEs (irs : List Ex) (es : List Expr) : Prop := Paired (fun ir e => PE X e (tE X fa ca P b k W ir)) irs es
theorem PEs.args : ∀ {irs : List Ex} {es : List Expr}, PEs X fa ca P b k W irs es → es.all noStar = true → PA X es (tL X fa ca P b k W irs)
  | _, _, .nil, _ => l_nil
  | _, _, .cons h t, hs => by
    rw [List.all_cons, Bool.and_eq_true] at hs
    exact l_cons h (PEs.args t hs.2) (star_cons hs.1)
theorem e_and {pos : Pos} : ∀ {irs : List Ex} {es : List Expr}, PEs X fa ca P b k W irs es → PE X (.BoolOp .And es pos) (tE X fa ca P b k W (.and irs))
  | _, _, .nil => ⟨fun _ _ _ _ _ _ ⟨_, _, _, _, h⟩ => h.elim⟩
  | _, _, .cons hx .nil => by
    refine ⟨fun pins s σ H Q I ⟨e, μ, loc, a, h⟩ => ?_⟩
    refine BoolOp_one (run_E hx I a (post_bind h) (fun _ _ z => z) fun u s1 v H1 d μ1 loc1 I1 r1 a1 st1 rd1 h => ?_)
    exact ⟨v, H1, I1, r1, h v H1 loc1 a1.sim st1 rd1⟩
  | _, _, .cons hx (.cons hy t) => by
    refine ⟨fun pins s σ H Q I ⟨e, μ, loc, a, h⟩ => ?_⟩
    refine BoolOp_and (run_E hx I a (post_bind h) (fun _ _ z => z) fun u s1 v H1 d μ1 loc1 I1 r1 a1 st1 rd1 h => ?_)
    obtain ⟨c, ec, h⟩ := post_ofO (post_bind h)
    refine tru I1 a1.sim r1 rd1 ec fun s2 I2 => ?_
    cases c with
    | false => exact ⟨v, H1, I2, r1, h v H1 loc1 a1.sim st1 rd1⟩
    | true =>
      exact (e_and (pos := pos) (.cons hy t)).run pins s2 σ H1 Q I2 ⟨e, μ1, loc1, a1, post_mono h (fun d2 μ2 ok v2 H2 loc2 S2 st2 rd2 => ok v2 H2 loc2 S2 (st1.trans st2) rd2) fun _ _ z => z.next st1⟩
theorem e_or {pos : Pos} : ∀ {irs : List Ex} {es : List Expr}, PEs X fa ca P b k W irs es → PE X (.BoolOp .Or es pos) (tE X fa ca P b k W (.or irs))
  | _, _, .nil => ⟨fun _ _ _ _ _ _ ⟨_, _, _, _, h⟩ => h.elim⟩
  | _, _, .cons hx .nil => by
    refine ⟨fun pins s σ H Q I ⟨e, μ, loc, a, h⟩ => ?_⟩
    refine BoolOp_one (run_E hx I a (post_bind h) (fun _ _ z => z) fun u s1 v H1 d μ1 loc1 I1 r1 a1 st1 rd1 h => ?_)
    exact ⟨v, H1, I1, r1, h v H1 loc1 a1.sim st1 rd1⟩
  | _, _, .cons hx (.cons hy t) => by
    refine ⟨fun pins s σ H Q I ⟨e, μ, loc, a, h⟩ => ?_⟩
    refine BoolOp_or (run_E hx I a (post_bind h) (fun _ _ z => z) fun u s1 v H1 d μ1 loc1 I1 r1 a1 st1 rd1 h => ?_)
    obtain ⟨c, ec, h⟩ := post_ofO (post_bind h)
    refine tru I1 a1.sim r1 rd1 ec fun s2 I2 => ?_
    cases c with
    | true => exact ⟨v, H1, I2, r1, h v H1 loc1 a1.sim st1 rd1⟩
    | false =>
      exact (e_or (pos := pos) (.cons hy t)).run pins s2 σ H1 Q I2 ⟨e, μ1, loc1, a1, post_mono h (fun d2 μ2 ok v2 H2 loc2 S2 st2 rd2 => ok v2 H2 loc2 S2 (st1.trans st2) rd2) fun _ _ z => z.next st1⟩
theorem e_ite {c : Ts} {x y : Ex} {ec ex ey : Expr} {pos : Pos} (hc : PT X ec (tT X fa ca P b k W c)) (hx : PE X ex (tE X fa ca P b k W x)) (hy : PE X ey (tE X fa ca P b k W y)) : PE X (.IfExp ec ex ey pos) (tE X fa ca P b k W (.ite c x y)) := by
  refine ⟨fun pins s σ H Q I ⟨e, μ, loc, a, h⟩ => ?_⟩
  refine wpAny_IfExp (run_T hc I a (post_bind h) (fun _ _ z => z) fun c s1 H1 μ1 loc1 I1 a1 st1 h => ?_)
  cases c with
  | true => exact hx.run pins s1 σ H1 Q I1 ⟨e, μ1, loc1, a1, post_mono h (fun d2 μ2 ok v2 H2 loc2 S2 st2 rd2 => ok v2 H2 loc2 S2 (st1.trans st2) rd2) fun _ _ z => z.next st1⟩
  | false => exact hy.run pins s1 σ H1 Q I1 ⟨e, μ1, loc1, a1, post_mono h (fun d2 μ2 ok v2 H2 loc2 S2 st2 rd2 => ok v2 H2 loc2 S2 (st1.trans st2) rd2) fun _ _ z => z.next st1⟩

/-! ### tests -/
theorem t_val {x : Ex} {ex : Expr} (hx : PE X ex (tE X fa ca P b k W x)) (hp : ∀ whole, isTrue ex X.env whole = (do let v ← whole; standAt ex.pos; holding [v] (truthy v))) : PT X ex (tT X fa ca P b k W (.val x)) := by
  refine ⟨fun pins s σ H Q I ⟨e, μ, loc, a, h⟩ => ?_⟩
  refine isTrue_plain (run_E hx I a (post_bind h) (fun _ _ z => z) fun u s1 v H1 d μ1 loc1 I1 r1 a1 st1 rd1 h => ?_) (hp _)
  obtain ⟨c, ec, h⟩ := post_ofO h
  exact tru I1 a1.sim r1 rd1 ec fun s2 I2 => ⟨H1, I2, h H1 loc1 a1.sim st1⟩
theorem t_not {x : Ts} {ex : Expr} {pos : Pos} (hx : PT X ex (tT X fa ca P b k W x)) : PT X (.UnaryOp .Not ex pos) (tT X fa ca P b k W (.not x)) := by
  refine ⟨fun pins s σ H Q I ⟨e, μ, loc, a, h⟩ => ?_⟩
  refine isTrue_not (run_T hx I a (post_bind h) (fun _ _ z => z) fun c s1 H1 μ1 loc1 I1 a1 st1 h => ?_)
  exact ⟨H1, I1, h H1 loc1 a1.sim st1⟩
variable (X fa ca P b k W) in
abbrev PTs (irs : List Ts) (es : List Expr) : Prop := Paired (fun ir e => PT X e (tT X fa ca P b k W ir)) irs es
theorem tw_and {pos : Pos} : ∀ {irs : List Ts} {es : List Expr}, PTs X fa ca P b k W irs es → PW X (.BoolOp .And es pos) (tT X fa ca P b k W (.and irs))
  | _, _, .nil => ⟨fun _ _ _ _ _ _ _ ⟨_, _, _, _, h⟩ => h.elim⟩
  | _, _, .cons hx .nil => by
    refine ⟨fun wh pins s σ H Q I ⟨e, μ, loc, a, h⟩ => ?_⟩
    refine isTrue_and (run_T hx I a (post_bind h) (fun _ _ z => z) fun c s1 H1 μ1 loc1 I1 a1 st1 h => ?_)
    have q : TP X pins σ Q c s1 := ⟨H1, I1, h H1 loc1 a1.sim st1⟩
    cases c with
    | true => exact isTrue_and_nil q
    | false => exact q
  | _, _, .cons hx (.cons hy t) => by
    refine ⟨fun wh pins s σ H Q I ⟨e, μ, loc, a, h⟩ => ?_⟩
    refine isTrue_and (run_T hx I a (post_bind h) (fun _ _ z => z) fun c s1 H1 μ1 loc1 I1 a1 st1 h => ?_)
    cases c with
    | true => exact (tw_and (pos := pos) (.cons hy t)).run wh pins s1 σ H1 Q I1 ⟨e, μ1, loc1, a1, post_mono h (fun d2 μ2 ok H2 loc2 S2 st2 => ok H2 loc2 S2 (st1.trans st2)) fun _ _ z => z.next st1⟩
    | false => exact ⟨H1, I1, h H1 loc1 a1.sim st1⟩
theorem tw_or {pos : Pos} : ∀ {irs : List Ts} {es : List Expr}, PTs X fa ca P b k W irs es → PW X (.BoolOp .Or es pos) (tT X fa ca P b k W (.or irs))
  | _, _, .nil => ⟨fun _ _ _ _ _ _ _ ⟨_, _, _, _, h⟩ => h.elim⟩
  | _, _, .cons hx .nil => by
    refine ⟨fun wh pins s σ H Q I ⟨e, μ, loc, a, h⟩ => ?_⟩
    refine isTrue_or (run_T hx I a (post_bind h) (fun _ _ z => z) fun c s1 H1 μ1 loc1 I1 a1 st1 h => ?_)
    have q : TP X pins σ Q c s1 := ⟨H1, I1, h H1 loc1 a1.sim st1⟩
    cases c with
    | false => exact isTrue_or_nil q
    | true => exact q
  | _, _, .cons hx (.cons hy t) => by
    refine ⟨fun wh pins s σ H Q I ⟨e, μ, loc, a, h⟩ => ?_⟩
    refine isTrue_or (run_T hx I a (post_bind h) (fun _ _ z => z) fun c s1 H1 μ1 loc1 I1 a1 st1 h => ?_)
    cases c with
    | false => exact (tw_or (pos := pos) (.cons hy t)).run wh pins s1 σ H1 Q I1 ⟨e, μ1, loc1, a1, post_mono h (fun d2 μ2 ok H2 loc2 S2 st2 => ok H2 loc2 S2 (st1.trans st2)) fun _ _ z => z.next st1⟩
    | true => exact ⟨H1, I1, h H1 loc1 a1.sim st1⟩

/-! ### new objects -/
theorem all_some : ∀ {fs : List (Option D)} {ds : List D}, MI.allSome fs = some ds → fs = ds.map some
  | [], _, h => by cases (Option.some.inj h); rfl
  | some d :: r, _, h => by
    obtain ⟨l, e, rfl⟩ := Option.map_eq_some_iff.mp h
    rw [all_some e]; rfl
  | none :: _, _, h => nomatch h
/-- an instance all of whose slots are set -/
theorem full {vs : List (Option V)} {ds : List D} {A : Ad} {Z : Addr → Prop} (h : RDO A loc Z H (ds.map some) vs) : ∃ xs, vs = xs.map some ∧ RDs A loc Z H ds xs := by
  obtain ⟨hl, h⟩ := h
  induction ds generalizing vs with
  | nil =>
    cases vs with
    | nil => exact ⟨[], rfl, .nil⟩
    | cons _ _ => simp at hl
  | cons d r ih =>
    obtain ⟨v, h1, h2⟩ := h 0 d (by simp)
    cases vs with
    | nil => simp at h1
    | cons v0 vr =>
      simp at h1
      subst h1
      obtain ⟨xs, e, q⟩ := ih (vs := vr) (by simpa using hl) fun k d' e => by
        obtain ⟨w, h3, h4⟩ := h (k + 1) d' (by simpa using e)
        exact ⟨w, by simpa using h3, h4⟩
      exact ⟨v :: xs, by rw [e]; rfl, .cons h2 q⟩

mutual
/-- data without the references at n and above are as they were with a shorter store -/
theorem lt_ok {A : Ad} {loc loc' : Loc} {Z Z' : Addr → Prop} {n : Nat} (hl : ∀ (i : Nat) p, i < n → loc'[i]? = some p → loc[i]? = some p) (hz : ∀ a, Z a → Z' a) : ∀ {d : D} {v : V}, RD A loc' Z' H d v → D.lt n d = true → RD A loc Z H d v
  | _, _, .non, _ => .non
  | _, _, .bl b, _ => .bl b
  | _, _, .int i, _ => .int i
  | _, _, .str s, _ => .str s
  | _, _, .tupH h z r, q => .tupH h (fun w => z (hz _ w)) (ltL_ok hl hz r q)
  | _, _, .tupK h r, q => .tupK h (ltL_ok hl hz r q)
  | _, _, .lstH h z r, q => .lstH h (fun w => z (hz _ w)) (ltL_ok hl hz r q)
  | _, _, .lstK h r, q => .lstK h (ltL_ok hl hz r q)
  | _, _, .ref h, q => .ref (hl _ _ (Nat.blt_eq.mp q) h)
  | _, _, .ins h hd z zd r, q => .ins h hd (fun w => z (hz _ w)) (fun w => zd (hz _ w)) (ltL_ok hl hz r q)
  | _, _, .fn f, _ => .fn f
  | _, _, .cls c, _ => .cls c
  | _, _, .ty n, _ => .ty n
theorem ltL_ok {A : Ad} {loc loc' : Loc} {Z Z' : Addr → Prop} {n : Nat} (hl : ∀ (i : Nat) p, i < n → loc'[i]? = some p → loc[i]? = some p) (hz : ∀ a, Z a → Z' a) : ∀ {ds : List D} {vs : List V}, RDs A loc' Z' H ds vs → D.ltL n ds = true → RDs A loc Z H ds vs
  | _, _, .nil, _ => .nil
  | _, _, .cons h t, q => by
    have q' : D.lt n _ = true ∧ D.ltL n _ = true := Bool.and_eq_true_iff.mp q
    exact .cons (lt_ok hl hz h q'.1) (ltL_ok hl hz t q'.2)
end
end
/-- the store is cut back to what it was: nothing below the base has turned -/
theorem cut {A : Ad} {μ μ' : Store} {loc loc' : Loc} {H H' : Hp} {b : Nat} (hb : b ≤ μ.length) (S : Sim A μ loc H) (st : Stp μ.length μ loc H μ' loc' H') (S' : Sim A μ' loc' H') : Sim A μ loc H' ∧ Stp b μ loc H μ loc H' ∧ (∀ (i : Nat) p, i < μ.length → loc'[i]? = some p → loc[i]? = some p) ∧ ∀ a, Own μ loc 0 a → Own μ' loc' 0 a := by
  have low : ∀ (i : Nat), i < μ.length → μ'[i]? = μ[i]? := st.low
  have ll : ∀ (i : Nat) p, i < μ.length → loc'[i]? = some p → loc[i]? = some p := fun i p hi h => by
    have hi' : i < loc.length := by rw [S.len]; exact hi
    have e := st.pre i _ (List.getElem?_eq_getElem hi')
    rw [e] at h; rw [← h, List.getElem?_eq_getElem hi']
  have hz : ∀ a, Own μ loc 0 a → Own μ' loc' 0 a := fun a ⟨i, so, p, e0, e1, e2, e3⟩ => ⟨i, so, p, e0, by rw [low i (List.getElem?_eq_some_iff.mp e1).1]; exact e1, st.pre i p e2, e3⟩
  have ub : ∀ a, ¬ Own μ loc μ.length a := fun a ⟨i, so, p, e0, e1, _, _⟩ => by
    have := (List.getElem?_eq_some_iff.mp e1).1
    omega
  have stp : Stp b μ loc H μ loc H' := ⟨fun _ _ h => h, Nat.le_refl _, fun _ _ => rfl, fun a o h z => st.keep a o h (ub a), st.there, fun _ _ _ _ h => h⟩
  have kk : Keeps loc loc (Own μ loc 0) (Own μ loc 0) H H' := stp.keeps
  refine ⟨⟨S.len, S.inj, fun i so q e1 e2 => ?_⟩, stp, ll, hz⟩
  have r0 := S.rel i so q e1 e2
  have k : ∀ a o, H a = some o → H' a = some o := fun a o h => st.keep a o h (ub a)
  cases so with
  | lst ds =>
    obtain ⟨xs, h, r⟩ := r0
    exact ⟨xs, k _ _ h, r.mono kk⟩
  | obj c fs =>
    obtain ⟨nd, vs, h, ⟨od, hd⟩, hl, r⟩ := r0
    refine ⟨nd, vs, ?_, ⟨od, k _ _ hd⟩, hl, fun k' d e => ?_⟩
    · rcases h with ⟨h, e⟩ | ⟨h, e⟩
      · exact .inl ⟨k _ _ h, e⟩
      · exact .inr ⟨k _ _ h, k _ _ e⟩
    · obtain ⟨v, h1, h2⟩ := r k' d e
      exact ⟨v, h1, h2.mono kk⟩
  | dead => trivial
end MS

set_option maxRecDepth 100000
set_option maxHeartbeats 1000000
/-! UwSound6: new objects, built-ins. -/
namespace MS
open PySem PySem.Spec PyProof.Rows L2
open MI (D SO Store R SR Ex Ts Sm TgN)

/-- an entry is given up -/
theorem killed {A : Ad} {μ : Store} {loc : Loc} {H : Hp} {b i : Nat} {so : SO} {q : LE} (S : Sim A μ loc H) (hi : μ[i]? = some so) (hq : loc[i]? = some q) (hb : b ≤ i) :
    Sim A (μ.set i .dead) loc H ∧ Stp b μ loc H (μ.set i .dead) loc H ∧ ∀ x, own so q x → ¬ Own (μ.set i .dead) loc 0 x := by
  have hil : i < μ.length := (List.getElem?_eq_some_iff.mp hi).1
  have back : ∀ (j : Nat) so1, (μ.set i .dead)[j]? = some so1 → (j = i ∧ so1 = .dead) ∨ (j ≠ i ∧ μ[j]? = some so1) := fun j so1 e => by
    by_cases hj : i = j
    · subst hj
      rw [List.getElem?_set_self hil] at e
      cases e
      exact .inl ⟨rfl, rfl⟩
    · rw [List.getElem?_set_ne hj] at e
      exact .inr ⟨Ne.symm hj, e⟩
  have ow : ∀ c x, Own (μ.set i .dead) loc c x → Own μ loc c x := fun c x ⟨j, sj, pj, e0, e1, e2, e3⟩ => by
    rcases back j sj e1 with ⟨_, rfl⟩ | ⟨_, e⟩
    · exact e3.elim
    · exact ⟨j, sj, pj, e0, e, e2, e3⟩
  have st : Stp b μ loc H (μ.set i .dead) loc H := ⟨fun _ _ h => h, by simp, fun j hj => by rw [List.getElem?_set_ne (by omega)], fun a o h z => h, fun a o h => ⟨o, h⟩, fun c a o _ z => ow c a z⟩
  have kk := st.keeps
  refine ⟨⟨by simp [S.len], fun i' j so1 so2 p1 p2 x ne a1 a2 b1 b2 o1 o2 => ?_, fun j sj pj e1 e2 => ?_⟩, st, fun x o1 ⟨j, sj, pj, e0, e1, e2, e3⟩ => ?_⟩
  · rcases back i' so1 a1 with ⟨_, rfl⟩ | ⟨_, c1⟩
    · exact o1
    · rcases back j so2 a2 with ⟨_, rfl⟩ | ⟨_, c2⟩
      · exact o2
      · exact S.inj i' j so1 so2 p1 p2 x ne c1 c2 b1 b2 o1 o2
  · rcases back j sj e1 with ⟨_, rfl⟩ | ⟨_, c1⟩
    · exact True.intro
    · have r0 := S.rel j sj pj c1 e2
      cases sj with
      | lst ds =>
        obtain ⟨xs, h, r⟩ := r0
        exact ⟨xs, h, r.mono kk⟩
      | obj c fs =>
        obtain ⟨nd, vs, h, hd, hl, r⟩ := r0
        exact ⟨nd, vs, h, hd, hl, fun k' d e => by obtain ⟨v, h1, h2⟩ := r k' d e; exact ⟨v, h1, h2.mono kk⟩⟩
      | dead => trivial
  · rcases back j sj e1 with ⟨_, rfl⟩ | ⟨nj, c1⟩
    · exact e3
    · exact S.inj j i sj so pj q x nj c1 hi e2 hq e3 o1

section
variable {X : Cx} {fa ca : Nat → Addr} {P : MI.Prog} {G : Gn} {b k n : Nat} {W : WX}
variable {pins : List (Addr × Obj)} {s : Shared} {σ : L2.St} {H : Hp} {e : MI.Env} {μ : Store} {loc : Loc}
theorem post_new {cf : Nat → MI.Call} {c : Nat} {kk : MI.Cls} {ds : List D} {okP : D → Store → Prop} {exP : D → Store → Prop} (hk : P.clss[c]? = some kk) (h : post (MI.new P cf c ds μ) okP exP) :
    post (cf μ.length kk.init (.ref μ.length :: ds) (μ ++ [.obj c (List.replicate kk.slots.length none)])) (fun d μ' => d = .non ∧ ∃ fs ds', μ'[μ.length]? = some (.obj c fs) ∧ MI.allSome fs = some ds' ∧ ds' ≠ [] ∧
      ((D.ltL μ.length ds' = true ∧ okP (.ins c ds') μ) ∨ okP (.ins c ds') (μ'.set μ.length .dead))) exP := by
  unfold MI.new at h
  rw [hk] at h
  dsimp only at h
  cases hr : cf μ.length kk.init (.ref μ.length :: ds) (μ ++ [.obj c (List.replicate kk.slots.length none)]) with
  | no => rw [hr] at h; exact h.elim
  | ex x μ' => rw [hr] at h; exact h
  | ok d μ' =>
    rw [hr] at h
    cases d with
    | non =>
      dsimp only at h
      cases hm : μ'[μ.length]? with
      | none => rw [hm] at h; exact h.elim
      | some so =>
        rw [hm] at h
        cases so with
        | obj c' fs =>
          dsimp only at h
          cases ha : MI.allSome fs with
          | none => rw [ha] at h; exact h.elim
          | some ds' =>
            rw [ha] at h
            dsimp only at h
            split at h
            · rename_i hc
              rw [Bool.and_eq_true] at hc
              have hcc : c' = c := Nat.eq_of_beq_eq_true hc.1
              subst hcc
              have hne : ds' ≠ [] := by
                intro z; rw [z] at hc; exact absurd hc.2 (by decide)
              refine ⟨rfl, fs, ds', hm, ha, hne, ?_⟩
              split at h
              · rename_i hq
                rw [Bool.and_eq_true] at hq
                exact .inl ⟨hq.2, h⟩
              · exact .inr h
            · exact h.elim
        | _ => exact h.elim
    | _ => exact h.elim
/-- C(..) -/
theorem callnew {c : Nat} {kk : MI.Cls} {ds : List D} {vs : List V} {us : List Value} {okP : D → Store → Prop} {exP : D → Store → Prop} {Qf : Value → Shared → Prop} (g : Gd X fa ca P G b k n W) (hk : P.clss[c]? = some kk)
    (I : Inv X pins σ H s) (a : At ⟨X.K, fa, ca⟩ b e σ μ loc H) (r : Vals vs us) (rd : RDsat ⟨X.K, fa, ca⟩ μ loc H ds vs)
    (hp : post (MI.new P (MI.callN P k) c ds μ) okP exP) (hx : ∀ x μ', exP x μ' → ExW ⟨X.K, fa, ca⟩ b μ loc H (fun cls d H' => W cls d σ H') x μ')
    (kq : ∀ u s' v H' d μ' loc', Inv X pins σ H' s' → RelV v u → At ⟨X.K, fa, ca⟩ b e σ μ' loc' H' → Stp b μ loc H μ' loc' H' → RDat ⟨X.K, fa, ca⟩ μ' loc' H' d v → okP d μ' → Qf u s') :
    wpAny (model X.prog X.w) X.A (call (.ref (ca c)) us) Qf X.xe s := by
  have F := g.facts.cls c kk hk
  have I2 := Inv.made (C := ca c) I
  have hpn := post_new hk hp
  have nx : H (s.heap.objs.size + 1) = none := I.hok.fresh (Nat.le_succ _)
  have nd : H s.heap.objs.size = none := I.hok.fresh (Nat.le_refl _)
  have ne : s.heap.objs.size ≠ s.heap.objs.size + 1 := Nat.ne_of_lt (Nat.lt_succ_self _)
  have add : ∀ b', b' ≤ μ.length → _ := fun b' hb' => added (b := b') (so := .obj c (List.replicate kk.slots.length none)) (q := ⟨s.heap.objs.size + 1, s.heap.objs.size⟩)
    (H' := upd (upd H s.heap.objs.size (.own (s.heap.objs.size + 1))) (s.heap.objs.size + 1) (.ins (ca c) s.heap.objs.size [])) a.sim hb' (fun x h => by
      rcases h with h | h
      · rw [h]; exact nx
      · rw [h]; exact nd) (fun a' o h => by rw [upd_ne (ne_of_none h nx), upd_ne (ne_of_none h nd)]; exact h) fun st => ⟨ne, [], .inl ⟨upd_same, rfl⟩, ⟨_, by rw [upd_ne ne, upd_same]⟩, Nat.zero_le _, fun k' d e' => by
        have := List.getElem?_eq_some_iff.mp e'
        obtain ⟨_, h2⟩ := this
        simp at h2⟩
  obtain ⟨S2, st2⟩ := add b a.hb
  obtain ⟨_, st2'⟩ := add μ.length (Nat.le_refl _)
  have a2 := a.next st2 S2
  refine wpAny_call (make_map (f := fa kk.init) I.kIn F.mke.makes F.mke.init (beq_iff_eq.mp F.mke.fn) (codeAny_mono (callA (e := e) (c := μ.length) (ds := .ref μ.length :: ds) (vs := .ref (s.heap.objs.size + 1) :: vs) (us := .ref (s.heap.objs.size + 1) :: us) (Qf := fun v s' => v = .none ∧ Qf (.ref (s.heap.objs.size + 1)) s') g
    ((g.room.mono (show n + 1 ≤ n + 3 by omega)).make (ca c) us []) (I2.env0.make (ca c) us []) I2 a2 (.cons rfl r) (.cons (.ref (p := ⟨s.heap.objs.size + 1, s.heap.objs.size⟩) ?_) (rd.mono st2.keeps)) a.hb (by simp) hpn (fun x μ' z => (hx x μ' z).next st2) fun u3 s3 v3 H3 d3 μ3 loc3 I3 r3 a3 st3 rd3 ok => ?_) fun r s' hq => ?_))
  · rw [← a.sim.len]; simp
  · obtain ⟨hd, fs, ds', e1, e2, hne, ok⟩ := ok
    subst hd
    have hv : v3 = .non := by cases rd3; rfl
    subst hv
    refine ⟨r3, ?_⟩
    have hfs := all_some e2
    subst hfs
    have hq : loc3[μ.length]? = some (⟨s.heap.objs.size + 1, s.heap.objs.size⟩ : LE) := st3.pre _ _ (by rw [← a.sim.len]; simp)
    obtain ⟨_, vs', sl, _, ro⟩ := a3.sim.rel _ _ _ e1 hq
    obtain ⟨xs, hvs, rds⟩ := full ro
    subst hvs
    have sl' : H3 (s.heap.objs.size + 1) = some (SlX.SlO (s.heap.objs.size + 1) (ca c) s.heap.objs.size (xs.map some)) ∧ H3 s.heap.objs.size = some (.xd []) := by
      rcases sl with ⟨_, z⟩ | z
      · cases xs with
        | nil =>
          cases rds
          exact absurd rfl hne
        | cons _ _ => cases z
      · exact z
    rcases ok with ⟨hlt, ok⟩ | ok
    · obtain ⟨S4, st4, ll, hz⟩ := cut (b := b) a.hb a.sim (st2'.trans st3) a3.sim
      exact kq _ s3 (.ref (s.heap.objs.size + 1)) H3 (.ins c ds') μ loc I3 rfl (a.next st4 S4) st4 (.ins sl'.1 sl'.2 (own_none a.sim nx) (own_none a.sim nd) (ltL_ok ll hz rds hlt)) ok
    · obtain ⟨S4, st4, fr⟩ := killed (b := b) a3.sim e1 hq a.hb
      have st5 := (st2.trans (st3.mono a.hb)).trans st4
      exact kq _ s3 (.ref (s.heap.objs.size + 1)) H3 (.ins c ds') _ loc3 I3 rfl (a3.next st4 S4) st5 (.ins sl'.1 sl'.2 (fr _ (.inl rfl)) (fr _ (.inr rfl)) (rds.mono st4.keeps)) ok
  · cases r with
    | error er => exact hq
    | ok fl => cases fl <;> exact hq
theorem e_new {c : Nat} {kk : MI.Cls} {x : Str} {irs : List Ex} {es : List Expr} {p pos : Pos} (g : Gd X fa ca P G b k n W) (hk : P.clss[c]? = some kk) (hn : G.cl[c]? = some x) (hg : Gl X x) (hd : (x == ("__debug__" : Str)) = false)
    (h : PA X es (tL X fa ca P b k W irs)) (hlen : irs.length = es.length) (hs : es.all noStar = true) : PE X (.Call (.Name x p) es [] pos) (tE X fa ca P b k W (.new c irs)) := by
  refine ⟨fun pins s σ H Q I ⟨e, μ, loc, a, hp⟩ => ?_⟩
  have F := g.facts.cls c kk hk
  refine wpAny_Call_Name_kw (ld_glob I hg (g.facts.cl c x hn) ?_ hd)
  refine cw_args (first := []) F.mke.kp h hlen hs I a (post_bind hp) (fun _ _ z => z) fun us s1 vs H1 ds μ1 loc1 I1 r1 a1 st1 rd1 h1 => ?_
  exact callnew g hk I1 a1 r1 rd1 h1 (fun _ _ z => z.next st1) fun u s2 v H2 d μ2 loc2 I2 r2 a2 st2 rd2 ok => ⟨v, H2, I2, r2, ok v H2 loc2 a2.sim (st1.trans st2) rd2⟩
end
end MS

set_option maxRecDepth 100000
set_option maxHeartbeats 400000
/-! UwSound7: built-ins. -/
namespace MS
open PySem PySem.Spec PyProof.Rows L2
open MI (D SO Store R SR Ex Ts Sm TgN)

section
variable {X : Cx} {fa ca : Nat → Addr} {P : MI.Prog} {G : Gn} {b k n : Nat} {W : WX}
variable {pins : List (Addr × Obj)} {s : Shared} {σ : L2.St} {H : Hp} {e : MI.Env} {μ : Store} {loc : Loc}

theorem rd1 {A : Ad} {Z : Addr → Prop} {d : D} {vs : List V} (r : RDs A loc Z H [d] vs) : ∃ v, vs = [v] ∧ RD A loc Z H d v := by
  cases r with | cons h t => cases t; exact ⟨_, rfl, h⟩
theorem rd2 {A : Ad} {Z : Addr → Prop} {d d2 : D} {vs : List V} (r : RDs A loc Z H [d, d2] vs) : ∃ v v2, vs = [v, v2] ∧ RD A loc Z H d v ∧ RD A loc Z H d2 v2 := by
  cases r with | cons h t => cases t with | cons h2 t => cases t; exact ⟨_, _, rfl, h, h2⟩
theorem rd_len {m : Nat} {d : D} {v : V} {us : List Value} {Q : VK} (I : Inv X pins σ H s) (S : Sim ⟨X.K, fa, ca⟩ μ loc H) (rd : RDat ⟨X.K, fa, ca⟩ μ loc H d v) (r : Vals [v] us) (h : MI.lenOf μ d = some m) (q : Q (.int m) H) :
    wpAny (model X.prog X.w) X.A (call (.builtin "len") us) (EP X pins σ Q) X.xe s := by
  have seq : ∀ p ys, v = .ref p → (SqL X.K H p ys ∨ SqT X.K H p ys) → m = ys.length → _ := fun p ys e1 e2 e3 => call_len_seq pins s σ H [v] us Q I r ⟨p, ys, by rw [e1], e2, by rw [← e3]; exact q⟩
  cases rd with
  | tupH h1 z rr => exact seq _ _ rfl (.inr (.inl h1)) ((Option.some.inj h).symm.trans rr.length)
  | tupK h1 rr => exact seq _ _ rfl (.inr (.inr h1)) ((Option.some.inj h).symm.trans rr.length)
  | lstH h1 z rr => exact seq _ _ rfl (.inl (.inl h1)) ((Option.some.inj h).symm.trans rr.length)
  | lstK h1 rr => exact seq _ _ rfl (.inl (.inr h1)) ((Option.some.inj h).symm.trans rr.length)
  | str z =>
    unfold MI.lenOf at h
    dsimp only at h
    have hs : sizeLine = 16777216 := sizeLine_eq
    split at h
    · cases (Option.some.inj h)
      exact call_len_str pins s σ H _ us Q I r ⟨z, rfl, by omega, q⟩
    · cases h
  | @ref i p hl =>
    unfold MI.lenOf at h
    dsimp only at h
    cases q' : μ[i]? with
    | none => rw [q'] at h; cases h
    | some so =>
      rw [q'] at h
      cases so with
      | lst ds =>
        obtain ⟨xs, hx, rr⟩ := S.rel i _ p q' hl
        exact seq _ _ rfl (.inl (.inl (.inl hx))) ((Option.some.inj h).symm.trans rr.length)
      | _ => cases h
  | _ => cases h
/-- the type of plain data, for isinstance -/
theorem tyx {t : String} {d : D} {v : V} (S : Sim ⟨X.K, fa, ca⟩ μ loc H) (rd : RDat ⟨X.K, fa, ca⟩ μ loc H d v) (h : MI.tyOfS μ d = some t) : TyX X.K H v (.type t) ∧ ["NoneType", "int", "bool", "str", "tuple", "list", "dict"].contains t = true := by
  cases rd with
  | non => cases (Option.some.inj h); exact ⟨.base .non, by decide⟩
  | bl x => cases (Option.some.inj h); exact ⟨.base (.bl x), by decide⟩
  | int i => cases (Option.some.inj h); exact ⟨.base (.int i), by decide⟩
  | str z => cases (Option.some.inj h); exact ⟨.base (.str z), by decide⟩
  | tupH h1 z rr =>
    cases (Option.some.inj h)
    rcases h1 with h1 | ⟨o, h1⟩
    · exact ⟨.base (.tup h1), by decide⟩
    · exact ⟨.fTuple h1, by decide⟩
  | tupK h1 rr =>
    cases (Option.some.inj h)
    obtain ⟨o, its, n, h1, h2, _⟩ := h1
    exact ⟨.kTuple h1 h2, by decide⟩
  | lstH h1 z rr =>
    cases (Option.some.inj h)
    rcases h1 with h1 | ⟨o, h1⟩
    · exact ⟨.base (.lst h1), by decide⟩
    · exact ⟨.base (.frz h1), by decide⟩
  | lstK h1 rr =>
    cases (Option.some.inj h)
    obtain ⟨o, its, n, h1, h2, _⟩ := h1
    exact ⟨.kList h1 h2, by decide⟩
  | @ref i p hl =>
    unfold MI.tyOfS at h
    dsimp only at h
    cases q' : μ[i]? with
    | none => rw [q'] at h; cases h
    | some so =>
      rw [q'] at h
      cases so with
      | lst ds =>
        cases (Option.some.inj h)
        obtain ⟨xs, hx, rr⟩ := S.rel i _ p q' hl
        exact ⟨.base (.lst hx), by decide⟩
      | _ => cases h
  | _ => cases h
def kitTab : Bool := ["NoneType", "int", "bool", "str", "tuple", "list", "dict"].all fun t => MI.tyNames.all fun n => kitB t n == some (t == n || (t == "bool" && n == "int"))
theorem kitTab_ok : kitTab = true := by decide +kernel
theorem kit_tab {t n : String} (ht : ["NoneType", "int", "bool", "str", "tuple", "list", "dict"].contains t = true) (hn : MI.tyNames.contains n = true) : PySem.W.kitOne X.K (.type t) (.type n) = some (t == n || (t == "bool" && n == "int")) := by
  have h := kitTab_ok
  unfold kitTab at h
  rw [List.all_eq_true] at h
  have h1 := h t (List.contains_iff_mem.mp ht)
  rw [List.all_eq_true] at h1
  exact kit_ty (beq_iff_eq.mp (h1 n (List.contains_iff_mem.mp hn)))
theorem isTy_ok (g : Gd X fa ca P G b k n W) {d : D} {v : V} {t : String} {c : Bool} {us : List Value} {Q : VK} (I : Inv X pins σ H s) (S : Sim ⟨X.K, fa, ca⟩ μ loc H) (rd : RDat ⟨X.K, fa, ca⟩ μ loc H d v) (r : Vals [v, .ty t] us) (h : MI.isTy P d t μ = some c) (q : Q (.bl c) H) :
    wpAny (model X.prog X.w) X.A (call (.builtin "isinstance") us) (EP X pins σ Q) X.xe s := by
  unfold MI.isTy at h
  split at h
  · rename_i ht
    by_cases hi : ∃ c' ds', d = .ins c' ds'
    · obtain ⟨c', ds', rfl⟩ := hi
      obtain ⟨kk, hk, rfl⟩ := Option.map_eq_some_iff.mp h
      have F := g.facts.cls c' kk hk
      obtain ⟨a1', dx1, xs1, rfl, sl1, _⟩ := rd_ins rd
      exact SlX.call_isiSl (.type t) pins s σ H _ us Q I r ⟨a1', ca c', dx1, _, .ty t, false, rfl, rfl, fun w h => h, sl1, F.sc, F.si, F.ity t ht, q⟩
    · have h' : (MI.tyOfS μ d).map (fun t' => t' == t || (t' == "bool" && t == "int")) = some c := by
        cases d <;> first | exact h | exact absurd ⟨_, _, rfl⟩ hi
      obtain ⟨t', e, rfl⟩ := Option.map_eq_some_iff.mp h'
      obtain ⟨ty, tc⟩ := tyx S rd e
      exact call_isi pins s σ H _ us Q I r ⟨v, .ty t, .type t', .type t, _, rfl, .ty t, ty, kit_tab tc ht, q⟩
  · cases h
theorem isCl_ok (g : Gd X fa ca P G b k n W) {d : D} {v : V} {t : Nat} {c : Bool} {us : List Value} {Q : VK} (I : Inv X pins σ H s) (S : Sim ⟨X.K, fa, ca⟩ μ loc H) (rd : RDat ⟨X.K, fa, ca⟩ μ loc H d v) (r : Vals [v, .ref (ca t)] us) (h : MI.isCl P d t μ = some c) (q : Q (.bl c) H) :
    wpAny (model X.prog X.w) X.A (call (.builtin "isinstance") us) (EP X pins σ Q) X.xe s := by
  unfold MI.isCl at h
  obtain ⟨kt, hkt, h⟩ := Option.bind_eq_some_iff.mp h
  have Ft := g.facts.cls t kt hkt
  by_cases hi : ∃ c' ds', d = .ins c' ds'
  · obtain ⟨c', ds', rfl⟩ := hi
    obtain ⟨kk, hk, rfl⟩ := Option.map_eq_some_iff.mp h
    have F := g.facts.cls c' kk hk
    obtain ⟨a1', dx1, xs1, rfl, sl1, _⟩ := rd_ins rd
    exact SlX.call_isiSl (.ref (ca t)) pins s σ H _ us Q I r ⟨a1', ca c', dx1, _, .ref (ca t), _, rfl, rfl, fun w h => h, sl1, F.sc, F.si, F.ici t kt hkt, q⟩
  · have h' : (MI.tyOfS μ d).map (fun _ => false) = some c := by
      cases d <;> first | exact h | exact absurd ⟨_, _, rfl⟩ hi
    obtain ⟨t', e, rfl⟩ := Option.map_eq_some_iff.mp h'
    obtain ⟨ty, tc⟩ := tyx S rd e
    exact call_isi pins s σ H _ us Q I r ⟨v, .ref (ca t), .type t', .ref (ca t), _, rfl, .own _, ty, Ft.tyi t' tc, q⟩

def biV : MI.Bi → Value
  | .len => .builtin "len"
  | .abs => .builtin "abs"
  | .max => .builtin "max"
  | .min => .builtin "min"
  | .int => .type "int"
  | .bool => .type "bool"
  | .isi => .builtin "isinstance"
/-- a built-in called -/
theorem bi_ok {f : MI.Bi} {ds : List D} {vs : List V} {us : List Value} {okP : D → Store → Prop} {exP : D → Store → Prop} {Qf : Value → Shared → Prop} (g : Gd X fa ca P G b k n W)
    (I : Inv X pins σ H s) (a : At ⟨X.K, fa, ca⟩ b e σ μ loc H) (r : Vals vs us) (rd : RDsat ⟨X.K, fa, ca⟩ μ loc H ds vs) (hp : post (MI.biC P (MI.callN P k) b f ds μ) okP exP)
    (kq : ∀ u s' v H' d μ' loc', Inv X pins σ H' s' → RelV v u → At ⟨X.K, fa, ca⟩ b e σ μ' loc' H' → Stp b μ loc H μ' loc' H' → RDat ⟨X.K, fa, ca⟩ μ' loc' H' d v → okP d μ' → Qf u s') :
    wpAny (model X.prog X.w) X.A (call (biV f) us) Qf X.xe s := by
  have fin : ∀ (d : D) (v' : V), okP d μ → RDat ⟨X.K, fa, ca⟩ μ loc H d v' → (∀ Q : VK, Q v' H → wpAny (model X.prog X.w) X.A (call (biV f) us) (EP X pins σ Q) X.xe s) → wpAny (model X.prog X.w) X.A (call (biV f) us) Qf X.xe s := fun d v' ok rd' h => by
    refine thn (h (fun v H' => v = v' ∧ H' = H) ⟨rfl, rfl⟩) fun u s' ⟨v, H', I', r', e1, e2⟩ => ?_
    subst e1 e2
    exact kq u s' v _ d μ loc I' r' a .refl rd' ok
  unfold MI.biC at hp
  split at hp
  · obtain ⟨z, ez, ok⟩ := post_ofO hp
    obtain ⟨m, em, rfl⟩ := Option.map_eq_some_iff.mp ez
    obtain ⟨v, rfl, rv⟩ := rd1 rd
    exact fin _ (.int m) ok (.int _) fun Q q => rd_len I a.sim rv r em q
  · rename_i i
    obtain ⟨v, rfl, rv⟩ := rd1 rd
    cases rd_int rv
    exact fin _ _ hp (.int _) fun Q q => call_abs pins s σ H _ us Q I r ⟨i, rfl, q⟩
  · rename_i i j
    obtain ⟨v, v2, rfl, rv, rv2⟩ := rd2 rd
    cases rd_int rv
    cases rd_int rv2
    exact fin _ _ hp (.int _) fun Q q => call_max2 g.calm pins s σ H _ us Q I r ⟨i, j, rfl, q⟩
  · rename_i i j
    obtain ⟨v, v2, rfl, rv, rv2⟩ := rd2 rd
    cases rd_int rv
    cases rd_int rv2
    exact fin _ _ hp (.int _) fun Q q => call_min2 g.calm pins s σ H _ us Q I r ⟨i, j, rfl, q⟩
  · rename_i i
    obtain ⟨v, rfl, rv⟩ := rd1 rd
    cases rd_int rv
    exact fin _ _ hp (.int _) fun Q q => call_int1 pins s σ H _ us Q I r (.inl ⟨i, rfl, q⟩)
  · rename_i i
    obtain ⟨v, rfl, rv⟩ := rd1 rd
    cases rd_bl rv
    exact fin _ _ hp (.int _) fun Q q => call_int1 pins s σ H _ us Q I r (.inr ⟨i, rfl, q⟩)
  · rename_i i
    obtain ⟨v, rfl, rv⟩ := rd1 rd
    cases rd_int rv
    exact fin _ _ hp (.bl _) fun Q q => call_bool1 pins s σ H _ us Q I r (.inl ⟨i, rfl, q⟩)
  · rename_i i
    obtain ⟨v, rfl, rv⟩ := rd1 rd
    cases rd_bl rv
    exact fin _ _ hp (.bl _) fun Q q => call_bool1 pins s σ H _ us Q I r (.inr ⟨i, rfl, q⟩)
  · rename_i c ds
    split at hp
    · rename_i f hf
      obtain ⟨v, rfl, rv⟩ := rd1 rd
      obtain ⟨kk, hk, F⟩ := clsf g hf
      obtain ⟨x', hx1, M⟩ := F.meth _ f hf
      rw [g.facts.nBool] at hx1
      cases (Option.some.inj hx1)
      have rv' := rv
      obtain ⟨a1', dx1, xs1, rfl, sl1, _⟩ := rd_ins rv
      obtain ⟨u, rfl, ru⟩ := Vals.one r
      cases (show u = Value.ref a1' from ru)
      obtain ⟨_, od1, _, J1, _⟩ := SlX.slt_inst I sl1
      obtain ⟨m', fr⟩ := I.fr
      refine bool_own fr I.ok.mod.kin J1 M.at_ M.fn ?_
      have hr1 : Room n X.A.in1.in1 := ((g.room.mono (show n + 2 ≤ n + 3 by omega)).in1).in1
      refine wpAny_call (codeAny_mono (callA (e := e) (vs := [.ref a1']) (Qf := fun v s' => ∃ c, v = .bool c ∧ Qf (.bool c) s') g hr1 I.env0.in1.in1 I a (.cons rfl .nil) (.cons rv' .nil) b (Nat.le_refl _) a.hb (post_blR hp) (fun _ _ z => z.elim) fun u3 s3 v3 H3 d3 μ3 loc3 I3 r3 a3 st3 rd3 ⟨c3, e3, ok⟩ => ?_) fun r s' hq => ?_)
      · subst e3
        cases rd_bl rd3
        cases (show u3 = Value.bool c3 from r3)
        exact ⟨c3, rfl, kq _ s3 _ H3 _ μ3 loc3 I3 r3 a3 st3 rd3 ok⟩
      · cases r with
        | error er => exact hq
        | ok fl => cases fl <;> exact hq
    · exact hp.elim
  · rename_i x t
    obtain ⟨v, v2, rfl, rv, rv2⟩ := rd2 rd
    cases rv2
    obtain ⟨z, ez, ok⟩ := post_ofO hp
    obtain ⟨c, em, rfl⟩ := Option.map_eq_some_iff.mp ez
    exact fin _ _ ok (.bl _) fun Q q => isTy_ok g I a.sim rv r em q
  · rename_i x t
    obtain ⟨v, v2, rfl, rv, rv2⟩ := rd2 rd
    cases rv2
    obtain ⟨z, ez, ok⟩ := post_ofO hp
    obtain ⟨c, em, rfl⟩ := Option.map_eq_some_iff.mp ez
    exact fin _ _ ok (.bl _) fun Q q => isCl_ok g I a.sim rv r em q
  · exact hp.elim
def biN : MI.Bi → Str
  | .len => Str.ofString "len"
  | .abs => Str.ofString "abs"
  | .max => Str.ofString "max"
  | .min => Str.ofString "min"
  | .int => Str.ofString "int"
  | .bool => Str.ofString "bool"
  | .isi => Str.ofString "isinstance"
theorem biN_v (f : MI.Bi) : bootBuiltins (biN f) = some (biV f) := by cases f <;> decide +kernel
theorem biN_free {f : MI.Bi} (g : Gd X fa ca P G b k n W) : X.mg (biN f) = none := g.facts.free _ (by cases f <;> decide +kernel)
theorem e_bcall {f : MI.Bi} {irs : List Ex} {es : List Expr} {p pos : Pos} (g : Gd X fa ca P G b k n W) (hg : Gl X (biN f))
    (h : PA X es (tL X fa ca P b k W irs)) (hn : es.isEmpty = false) (hs : es.all noStar = true) : PE X (.Call (.Name (biN f) p) es [] pos) (tE X fa ca P b k W (.bcall f irs)) := by
  refine ⟨fun pins s σ H Q I ⟨e, μ, loc, a, hp⟩ => ?_⟩
  refine wpAny_Call_Name_kw (ld_blt I hg (biN_free g) (biN_v f) ?_ (by cases f <;> decide +kernel) (by cases f <;> decide +kernel))
  cases es with
  | nil => cases hn
  | cons e0 er =>
    rw [List.all_cons, Bool.and_eq_true] at hs
    have body := run_L (pos := pos) h I a (post_bind hp) (fun _ _ z => z) (Qf := fun us s1 => wpAny (model X.prog X.w) X.A (call (biV f) us) (EP X pins σ Q) X.xe s1) fun us s1 vs H1 ds μ1 loc1 I1 r1 a1 st1 rd1 h1 =>
      bi_ok g I1 a1 r1 rd1 h1 fun u s2 v H2 d μ2 loc2 I2 r2 a2 st2 rd2 ok => ⟨v, H2, I2, r2, ok v H2 loc2 a2.sim (st1.trans st2) rd2⟩
    have h1 := star_cons (env := X.env) (es := er) hs.1
    have h2 := star_plain (pos := pos) (env := X.env) hs.2
    cases f with
    | len => exact PyProof.Rows.callWith_builtin1 (id := "len") body h1 h2
    | abs => exact PyProof.Rows.callWith_builtin1 (id := "abs") body h1 h2
    | max => exact PyProof.Rows.callWith_builtin1 (id := "max") body h1 h2
    | min => exact PyProof.Rows.callWith_builtin1 (id := "min") body h1 h2
    | isi => exact PyProof.Rows.callWith_builtin1 (id := "isinstance") body h1 h2
    | int => exact PyProof.Rows.callWith_type1 (T := "int") body h1 h2
    | bool => exact PyProof.Rows.callWith_type1 (T := "bool") body h1 h2
/-! ### methods of built-in things -/
theorem flat_ok {A : Ad} {Z : Addr → Prop} {d : D} {v : V} (r : RD A loc Z H d v) (h : MI.flatD d = true) : flatV v = true := by
  cases r <;> first | rfl | cases h
theorem eqF_ok {A : Ad} {Z : Addr → Prop} {d d2 : D} {v v2 : V} (r : RD A loc Z H d v) (r2 : RD A loc Z H d2 v2) (h : MI.flatD d = true) (h2 : MI.flatD d2 = true) : eqV v v2 = MI.eqF d d2 := by
  cases r <;> first | (cases h; done) | (cases r2 <;> first | (cases h2; done) | rfl)
theorem flats {A : Ad} {Z : Addr → Prop} : ∀ {ds : List D} {vs : List V}, RDs A loc Z H ds vs → ds.all MI.flatD = true → vs.all flatV = true
  | _, _, .nil, _ => rfl
  | _, _, .cons r t, h => by
    rw [List.all_cons, Bool.and_eq_true] at h
    rw [List.all_cons, flat_ok r h.1, flats t h.2]; rfl
theorem counts {A : Ad} {Z : Addr → Prop} {d : D} {v : V} (r : RD A loc Z H d v) (h : MI.flatD d = true) : ∀ {ds : List D} {vs : List V} {us : List Value}, RDs A loc Z H ds vs → Vals vs us → ds.all MI.flatD = true → us.countP (eqU v) = ds.countP fun y => MI.eqF y d
  | _, _, _, .nil, .nil, _ => rfl
  | _, _, _, .cons q t, .cons p s, hs => by
    rw [List.all_cons, Bool.and_eq_true] at hs
    rw [List.countP_cons, List.countP_cons, counts r h t s hs.2, eqU_of p (flat_ok q hs.1), eqF_ok q r hs.1 h]
theorem bm_ok {f : MI.Bm} {d : D} {v : V} {u : Value} {ds : List D} {vs : List V} {us : List Value} {okP : D → Store → Prop} {exP : D → Store → Prop} {Qf : Value → Shared → Prop} (g : Gd X fa ca P G b k n W)
    (I : Inv X pins σ H s) (a : At ⟨X.K, fa, ca⟩ b e σ μ loc H) (r0 : RelV v u) (rd0 : RDat ⟨X.K, fa, ca⟩ μ loc H d v) (r : Vals vs us) (rd : RDsat ⟨X.K, fa, ca⟩ μ loc H ds vs) (hp : post (MI.bmC f d ds μ) okP exP)
    (kq : ∀ u s' v H' d μ' loc', Inv X pins σ H' s' → RelV v u → At ⟨X.K, fa, ca⟩ b e σ μ' loc' H' → Stp b μ loc H μ' loc' H' → RDat ⟨X.K, fa, ca⟩ μ' loc' H' d v → okP d μ' → Qf u s') :
    wpAny (model X.prog X.w) X.A (call (.builtin "list.count") (u :: us)) Qf X.xe s := by
  unfold MI.bmC at hp
  split at hp
  · rename_i x
    split at hp
    · rename_i items
      split at hp
      · rename_i hc
        rw [Bool.and_eq_true] at hc
        obtain ⟨w1, rfl, rv⟩ := rd1 rd
        obtain ⟨u1, rfl, ru⟩ := Vals.one r
        obtain ⟨p, xs, rfl, hq, rs⟩ := rd0.sqL
        cases (show u = Value.ref p from r0)
        obtain ⟨its, rv2, pl, hlen⟩ := I.list hq
        have pl' := pl
        obtain ⟨⟨cls, dd, data, sl⟩, n, ho, hcl, hdn, hd⟩ := pl
        simp only at hcl hd hdn
        subst hcl hd hdn
        refine call_meets PySem.F.slot_list_count ⟨_, ho, rfl⟩ PySem.F.entry_list_count (PySem.F.args_list_count_2 _ _) (SeqAt.list_countAt p its.toArray n none sl u1 (eqU w1)) ⟨ho, fun y hy => mem_eqAt ru (flat_ok rv hc.1) rv2 (flats rs hc.2) y (by simpa using hy), ?_⟩
        refine kq _ _ (.int (Int.ofNat (items.countP fun y => MI.eqF y x))) H _ μ loc (I.tok _) ⟨s.toks, ?_⟩ a .refl (.int _) hp
        have ec := counts rv hc.1 rs rv2 hc.2
        show Value.int ((its.toArray.toList.countP (eqU w1) : Nat) : Int) s.toks = _
        rw [show its.toArray.toList = its from rfl, ec]; rfl
      · exact hp.elim
    · exact hp.elim
  · exact hp.elim
def bmN : MI.Bm → Str
  | .count => Str.ofString "count"
theorem e_bmeth {f : MI.Bm} {o : Ex} {eo : Expr} {irs : List Ex} {es : List Expr} {apos pos : Pos} (g : Gd X fa ca P G b k n W) (ho : PE X eo (tE X fa ca P b k W o)) (hb : baseOk eo = true)
    (h : PA X es (tL X fa ca P b k W irs)) (hn : es.isEmpty = false) (hs : es.all noStar = true) (hl : es.length < 30) (hline : (apos.endLine == pos.line) = true) : PE X (.Call (.Attribute eo (bmN f) apos) es [] pos) (tE X fa ca P b k W (.bmeth f o irs)) := by
  refine ⟨fun pins s σ H Q I ⟨e, μ, loc, a, hp⟩ => ?_⟩
  cases f with
  | count =>
    cases es with
    | nil => cases hn
    | cons e0 er =>
      have hs' := hs
      rw [List.all_cons, Bool.and_eq_true] at hs'
      have hfew : ((backTo pos (starEach (e0 :: er) X.env)).all (fun x => !x.1) && (backToKw pos (keywordEach [] X.env)).all (fun x => x.1.isSome) && decide ((e0 :: er).length + ([] : List Keyword).length + (if ([] : List Keyword).isEmpty then 0 else 1) < 30)) = true := by
        rw [star_all hs]
        show (true && true && decide ((e0 :: er).length + 0 + 0 < 30)) = true
        simp only [Bool.true_and, Nat.add_zero]
        exact decide_eq_true hl
      refine wpAny_Call_method_late (base_of hb) hfew hline rfl (run_E ho I a (post_bind hp) (fun _ _ z => z) fun u s1 v H1 d μ1 loc1 I1 r1 a1 st1 rd0 h1 => ?_)
      cases d with
      | lst items =>
        obtain ⟨p, xs, rfl, hq, rs⟩ := rd0.sqL
        cases (show u = Value.ref p from r1)
        obtain ⟨its, rv2, pl, hlen⟩ := I1.list hq
        have hd : ∀ a, Value.ref p = .ref a → ∃ ob, s1.heap.get? a = some ob ∧ ob.dict = none := fun a ea => by
          cases ea
          obtain ⟨o, n, e, c, hd, _⟩ := pl
          exact ⟨o, e, hd⟩
        refine ⟨"list", "list.count", PySem.F.plainAttrs_list, PySem.F.slot_list_count, PySem.F.type_list_count, pl.isList.typeIs, hd, ?_⟩
        have h1' := star_cons (env := X.env) (es := er) hs'.1
        have h2' := star_plain (pos := pos) (env := X.env) hs'.2
        have hA := run_L (pos := pos) h I1 a1 (post_bind h1) (fun _ _ z => z.next st1) (Qf := fun us s2 => wpAny (model X.prog X.w) X.A (call (.builtin "list.count") (Value.ref p :: us)) (EP X pins σ Q) X.xe s2) fun us s2 vs H2 ds μ2 loc2 I2 r2 a2 st2 rd2 h2 =>
          bm_ok g I2 a2 r1 (rd0.mono st2.keeps) r2 rd2 h2 fun u3 s3 v3 H3 d3 μ3 loc3 I3 r3 a3 st3 rd3 ok => ⟨v3, H3, I3, r3, ok v3 H3 loc3 a3.sim ((st1.trans st2).trans st3) rd3⟩
        rw [h1'] at hA ⊢
        refine Calls.callWith_builtin (by show (false || (backTo pos (starEach er X.env)).any (·.1)) = false; rw [h2'] <;> rfl) (Calls.evalArgs_plain hA)
      | _ => exact h1.elim
end
end MS

set_option maxRecDepth 100000
set_option maxHeartbeats 400000
/-! UwStm: statements. -/
namespace MS
open PySem PySem.Spec PyProof.Rows L2
open MI (D SO Store R SR Ex Ts Sm TgN)

section
variable {X : Cx} {fa ca : Nat → Addr} {P : MI.Prog} {G : Gn} {b k n : Nat} {W : WX}
variable {pins : List (Addr × Obj)} {s : Shared} {σ : L2.St} {H : Hp} {e : MI.Env} {μ : Store} {loc : Loc}

/-- the frame's names behind a statement -/
def EnW (A : Ad) (b : Nat) (μ : Store) (loc : Loc) (H : Hp) (q : L2.St → Hp → Prop) (e' : MI.Env) (μ' : Store) : Prop :=
  ∀ σ' H' loc', Sim A μ' loc' H' → Stp b μ loc H μ' loc' H' → ER A loc' (Own μ' loc' 0) H' e' σ' → q σ' H'
def RtW (A : Ad) (b : Nat) (μ : Store) (loc : Loc) (H : Hp) (q : VK) (d : D) (μ' : Store) : Prop :=
  ∀ v H' loc', Sim A μ' loc' H' → Stp b μ loc H μ' loc' H' → RDat A μ' loc' H' d v → q v H'
def ExS (A : Ad) (b : Nat) (μ : Store) (loc : Loc) (H : Hp) (W : WX) (x : D) (e' : MI.Env) (μ' : Store) : Prop :=
  ∀ σ' H' loc' cls d, Sim A μ' loc' H' → Stp b μ loc H μ' loc' H' → ER A loc' (Own μ' loc' 0) H' e' σ' → RX A loc' μ' H' x cls d → W cls d σ' H'
def postS (A : Ad) (b : Nat) (μ : Store) (loc : Loc) (H : Hp) (W : WX) (D : Ends) : SR → Prop
  | .nx e' μ' => EnW A b μ loc H D.nx e' μ'
  | .rt d μ' => RtW A b μ loc H D.rt d μ'
  | .bk e' μ' => EnW A b μ loc H D.bk e' μ'
  | .ct e' μ' => EnW A b μ loc H D.ct e' μ'
  | .ex x e' μ' => ExS A b μ loc H W x e' μ'
  | .no => False
theorem EnW.next {A : Ad} {μ1 μ' : Store} {loc1 : Loc} {H1 : Hp} {q : L2.St → Hp → Prop} {e' : MI.Env} (h : EnW A b μ loc H q e' μ') (s : Stp b μ loc H μ1 loc1 H1) : EnW A b μ1 loc1 H1 q e' μ' :=
  fun σ' H' loc' S t r => h σ' H' loc' S (s.trans t) r
theorem postS.next {A : Ad} {μ1 : Store} {loc1 : Loc} {H1 : Hp} {D : Ends} {r : SR} (h : postS A b μ loc H W D r) (s : Stp b μ loc H μ1 loc1 H1) : postS A b μ1 loc1 H1 W D r := by
  cases r with
  | nx e' μ' => exact EnW.next h s
  | bk e' μ' => exact EnW.next h s
  | ct e' μ' => exact EnW.next h s
  | rt d μ' => exact fun v H' loc' S t r => h v H' loc' S (s.trans t) r
  | ex x e' μ' => exact fun σ' H' loc' cls d S t r z => h σ' H' loc' cls d S (s.trans t) r z
  | no => exact h
theorem post_go {A : Ad} {α : Type} {r : R α} {e : MI.Env} {f : α → Store → SR} {D : Ends} (h : postS A b μ loc H W D (r.go e f)) : post r (fun a μ' => postS A b μ loc H W D (f a μ')) (fun x μ' => ExS A b μ loc H W x e μ') := by
  cases r <;> exact h
/-- an exception within an expression -/
theorem ExS.toX {A : Ad} {μ' : Store} {x : D} (h : ExS A b μ loc H W x e μ') (er : ER A loc (Own μ loc 0) H e σ) : ExW A b μ loc H (fun cls d H' => W cls d σ H') x μ' :=
  fun H' loc' cls d S t r => h σ H' loc' cls d S t (er.mono t.keeps) r
theorem ExS.next {A : Ad} {μ1 μ' : Store} {loc1 : Loc} {H1 : Hp} {x : D} (h : ExS A b μ loc H W x e μ') (s : Stp b μ loc H μ1 loc1 H1) : ExS A b μ1 loc1 H1 W x e μ' := fun σ' H' loc' cls d S t r z => h σ' H' loc' cls d S (s.trans t) r z

variable (X fa ca P b k W) in
def tS (ir : Sm) : TS := fun D σ H => ∃ e μ loc, At ⟨X.K, fa, ca⟩ b e σ μ loc H ∧ postS ⟨X.K, fa, ca⟩ b μ loc H W D (MI.exS P (MI.callN P k) b ir e μ)
variable (X fa ca P b k W) in
def tSS (irs : List Sm) : TS := fun D σ H => ∃ e μ loc, At ⟨X.K, fa, ca⟩ b e σ μ loc H ∧ postS ⟨X.K, fa, ca⟩ b μ loc H W D (MI.exL P (MI.callN P k) b irs e μ)
theorem _root_.L2.PS.to {st : Stmt} {t t' : TS} (h : PS X st t) (m : ∀ D σ H, t' D σ H → t D σ H) : PS X st t' := ⟨fun pins s σ H D I q => h.run pins s σ H D I (m D σ H q)⟩
theorem s_no {st : Stmt} : PS X st (tS X fa ca P b k W .no) := ⟨fun _ _ _ _ _ _ ⟨_, _, _, _, h⟩ => h.elim⟩
theorem s_pass {pos : Pos} : PS X (.Pass pos) (tS X fa ca P b k W .pass) := ps_pass.to fun D σ H ⟨e, μ, loc, a, h⟩ => h σ H loc a.sim .refl a.er
theorem s_brk {pos : Pos} : PS X (.Break pos) (tS X fa ca P b k W .brk) := ps_break.to fun D σ H ⟨e, μ, loc, a, h⟩ => h σ H loc a.sim .refl a.er
theorem s_cont {pos : Pos} : PS X (.Continue pos) (tS X fa ca P b k W .cont) := ps_continue.to fun D σ H ⟨e, μ, loc, a, h⟩ => h σ H loc a.sim .refl a.er
theorem s_retN {pos : Pos} : PS X (.Return none pos) (tS X fa ca P b k W .retN) := ps_retN.to fun D σ H ⟨e, μ, loc, a, h⟩ => h .non H loc a.sim .refl .non
/-- an expression's reading from what is known of it -/
theorem goE {ir : Ex} {okP : D → Store → Prop} {Q : VK} (a : At ⟨X.K, fa, ca⟩ b e σ μ loc H) (h : post (MI.evE P (MI.callN P k) b ir e μ) okP fun x μ' => ExS ⟨X.K, fa, ca⟩ b μ loc H W x e μ')
    (q : ∀ d μ' v H' loc', okP d μ' → Sim ⟨X.K, fa, ca⟩ μ' loc' H' → Stp b μ loc H μ' loc' H' → RDat ⟨X.K, fa, ca⟩ μ' loc' H' d v → Q v H') : tE X fa ca P b k W ir σ H Q :=
  ⟨e, μ, loc, a, post_mono h (fun d μ' ok v H' loc' S st r => q d μ' v H' loc' ok S st r) fun x μ' z => z.toX a.er⟩
theorem goT {ir : Ts} {okP : Bool → Store → Prop} {Q : Bool → Hp → Prop} (a : At ⟨X.K, fa, ca⟩ b e σ μ loc H) (h : post (MI.evT P (MI.callN P k) b ir e μ) okP fun x μ' => ExS ⟨X.K, fa, ca⟩ b μ loc H W x e μ')
    (q : ∀ d μ' H' loc', okP d μ' → Sim ⟨X.K, fa, ca⟩ μ' loc' H' → Stp b μ loc H μ' loc' H' → Q d H') : tT X fa ca P b k W ir σ H Q :=
  ⟨e, μ, loc, a, post_mono h (fun d μ' ok H' loc' S st => q d μ' H' loc' ok S st) fun x μ' z => z.toX a.er⟩
theorem s_ret {x : Ex} {ex : Expr} {pos : Pos} (hx : PE X ex (tE X fa ca P b k W x)) : PS X (.Return (some ex) pos) (tS X fa ca P b k W (.ret x)) :=
  (ps_ret hx).to fun D σ H ⟨e, μ, loc, a, h⟩ => goE a (post_go h) fun d μ' v H' loc' ok S st r => ok v H' loc' S st r
/-- no comprehension: nothing is swapped -/
def noComp : Expr → Bool
  | .ListComp _ _ _ _ => false
  | .SetComp _ _ _ _ => false
  | .DictComp _ _ _ _ _ => false
  | _ => true
theorem no_swap {ex : Expr} {t : Option Expr} {l : Nat} {env : Env} (h : noComp ex = true) : swapsWith ex t l env = pure false := by
  cases ex <;> first | rfl | cases h
theorem s_expr {x : Ex} {ex : Expr} {pos : Pos} (hx : PE X ex (tE X fa ca P b k W x)) (hc : noComp ex = true) : PS X (.Expr ex pos) (tS X fa ca P b k W (.expr x)) :=
  (ps_expr hx (no_swap hc)).to fun D σ H ⟨e, μ, loc, a, h⟩ => goE a (post_go h) fun d μ' v H' loc' ok S st r => ok σ H' loc' S st (a.er.mono st.keeps)
theorem s_doc {x j pos pos'} : PS X (.Expr (.Constant (.str x) j pos) pos') (tS X fa ca P b k W .pass) := ps_doc.to fun D σ H ⟨e, μ, loc, a, h⟩ => h σ H loc a.sim .refl a.er
theorem s_asg {i : Nat} {x : Ex} {ex : Expr} {nm : Str} {pos pos' : Pos} (g : Gd X fa ca P G b k n W) (hi : X.N[i]? = some nm) (hl : X.env.scope.names.lookup nm = some .local) (hx : PE X ex (tE X fa ca P b k W x)) (hc : noComp ex = true) :
    PS X (.Assign [.Name nm pos'] ex pos) (tS X fa ca P b k W (.asg i x)) :=
  (ps_set g.nd hi (.inl hl) hx (no_swap hc) (.inr hl)).to fun D σ H ⟨e, μ, loc, a, h⟩ => goE a (post_go h) fun d μ' v H' loc' ok S st r => by
    unfold MI.setV at ok
    split at ok
    · rename_i hz
      exact ok _ H' loc' S st ((a.er.mono st.keeps).set (Nat.blt_eq.mp hz) r)
    · exact ok.elim
theorem s_ifs {c : Ts} {x y : List Sm} {ec : Expr} {ex ey : List Stmt} {pos : Pos} (hc : PT X ec (tT X fa ca P b k W c)) (hx : PSs X ex (tSS X fa ca P b k W x)) (hy : PSs X ey (tSS X fa ca P b k W y)) :
    PS X (.If ec ex ey pos) (tS X fa ca P b k W (.ifs c x y)) :=
  (ps_if hc hx hy).to fun D σ H ⟨e, μ, loc, a, h⟩ => goT a (post_go h) fun d μ' H' loc' ok S st => by
    cases d with
    | true => exact ⟨e, μ', loc', a.next st S, ok.next st⟩
    | false => exact ⟨e, μ', loc', a.next st S, ok.next st⟩
theorem ss_nil : PSs X [] (tSS X fa ca P b k W []) := ⟨fun pins s σ H D I ⟨e, μ, loc, a, h⟩ => pss_nil.run pins s σ H D I (h σ H loc a.sim .refl a.er)⟩
theorem ss_cons {x : Sm} {r : List Sm} {st : Stmt} {sr : List Stmt} (hx : PS X st (tS X fa ca P b k W x)) (hr : PSs X sr (tSS X fa ca P b k W r)) : PSs X (st :: sr) (tSS X fa ca P b k W (x :: r)) := by
  refine ⟨fun pins s σ H D I ⟨e, μ, loc, a, h⟩ => (pss_cons hx hr).run pins s σ H D I ⟨e, μ, loc, a, ?_⟩⟩
  have h' : postS ⟨X.K, fa, ca⟩ b μ loc H W D (match MI.exS P (MI.callN P k) b x e μ with | .nx e1 μ1 => MI.exL P (MI.callN P k) b r e1 μ1 | q => q) := h
  cases hq : MI.exS P (MI.callN P k) b x e μ with
  | nx e1 μ1 =>
    rw [hq] at h'
    exact fun σ' H' loc' S st er => ⟨e1, μ1, loc', ⟨S, er, Nat.le_trans a.hb st.len⟩, h'.next st⟩
  | _ => rw [hq] at h'; exact h'

/-! ### targets -/
variable (X fa ca b) in
def gT (t : TgN) : TG := fun v σ H Q => ∃ e μ loc d e1, At ⟨X.K, fa, ca⟩ b e σ μ loc H ∧ RDat ⟨X.K, fa, ca⟩ μ loc H d v ∧ MI.setT t d e = some e1 ∧ ∀ σ1, ER ⟨X.K, fa, ca⟩ loc (Own μ loc 0) H e1 σ1 → Q σ1 H
variable (X fa ca b) in
def gTs (ts : List TgN) : TGs := fun vs σ H Q => ∃ e μ loc ds e1, At ⟨X.K, fa, ca⟩ b e σ μ loc H ∧ RDsat ⟨X.K, fa, ca⟩ μ loc H ds vs ∧ ds.length = MI.lenT ts ∧ MI.setTs ts ds e = some e1 ∧ ∀ σ1, ER ⟨X.K, fa, ca⟩ loc (Own μ loc 0) H e1 σ1 → Q σ1 H
theorem _root_.L2.PG.to {tg : Expr} {t t' : TG} (h : PG X tg t) (m : ∀ v σ H Q, t' v σ H Q → t v σ H Q) : PG X tg t' := ⟨fun pins s σ H v u Q I r q => h.run pins s σ H v u Q I r (m v σ H Q q)⟩
theorem g_name {i : Nat} {nm : Str} {pos : Pos} (g : Gd X fa ca P G b k n W) (hi : X.N[i]? = some nm) (hl : X.env.scope.names.lookup nm = some .local) : PG X (.Name nm pos) (gT X fa ca b (.name i)) :=
  (pg_name g.nd hi (.inl hl) (.inr hl)).to fun v σ H Q ⟨e, μ, loc, d, e1, a, r, h, q⟩ => by
    unfold MI.setT at h
    split at h
    · rename_i hz
      cases (Option.some.inj h)
      exact q _ (a.er.set (Nat.blt_eq.mp hz) r)
    · cases h
theorem gs_nil : PGs X [] (gTs X fa ca b []) := ⟨fun pins s σ H vs us Q I r ⟨e, μ, loc, ds, e1, a, rd, hl, h, q⟩ => by
  cases (Option.some.inj h)
  have hds : ds = [] := List.length_eq_zero_iff.mp hl
  subst hds
  cases rd
  exact pgs_nil.run pins s σ H [] us Q I r ⟨rfl, q σ a.er⟩⟩
theorem gs_cons {t : TgN} {ts : List TgN} {x : Expr} {xs : List Expr} (h1 : PG X x (gT X fa ca b t)) (h2 : PGs X xs (gTs X fa ca b ts)) (hs : noStar x = true) : PGs X (x :: xs) (gTs X fa ca b (t :: ts)) :=
  ⟨fun pins s σ H vs us Q I r ⟨e, μ, loc, ds, e1, a, rd, hl, h, q⟩ => by
    cases ds with
    | nil => cases hl
    | cons d dr =>
      obtain ⟨e2, he, h⟩ := Option.bind_eq_some_iff.mp h
      cases rd with
      | @cons _ v _ vr rv rr =>
        refine (pgs_cons h1 h2 (by cases x <;> first | rfl | cases hs)).run pins s σ H _ us Q I r ⟨v, vr, rfl, e, μ, loc, d, e2, a, rv, he, fun σ1 er => ?_⟩
        exact ⟨e2, μ, loc, dr, e1, ⟨a.sim, er, a.hb⟩, rr, Nat.succ.inj hl, h, q⟩⟩
theorem lenT_len : ∀ {ts : List TgN}, MI.lenT ts = ts.length
  | [] => rfl
  | _ :: r => congrArg Nat.succ (lenT_len (ts := r))
theorem ae_len {env : Env} : ∀ {es : List Expr}, (assignEach es env).length = es.length
  | [] => rfl
  | e :: es => by cases e <;> exact congrArg Nat.succ (ae_len (es := es))
theorem ae_plain {env : Env} : ∀ {es : List Expr}, es.all noStar = true → (assignEach es env).findIdx? (·.1) = none
  | [], _ => rfl
  | e :: es, h => by
    rw [List.all_cons, Bool.and_eq_true] at h
    have e1 : assignEach (e :: es) env = (false, assign e env) :: assignEach es env := by
      have h := h.1
      cases e <;> first | rfl | cases h
    rw [e1, List.findIdx?_cons]
    simp [ae_plain (env := env) h.2]
theorem g_tup {ts : List TgN} {xs : List Expr} {j : Nat} {pos : Pos} (g : Gd X fa ca P G b k n W) (h : PGs X xs (gTs X fa ca b ts)) (hl : ts.length = xs.length) (hs : xs.all noStar = true) : PG X (.Tuple xs j pos) (gT X fa ca b (.tup ts)) :=
  (pg_tup g.calm h (n := xs.length) ae_len (ae_plain hs)).to fun v σ H Q ⟨e, μ, loc, d, e1, a, r, h, q⟩ => by
    unfold MI.setT at h
    cases d with
    | tup ds =>
      dsimp only at h
      split at h
      · rename_i hz
        have hz := Nat.eq_of_beq_eq_true hz
        obtain ⟨p, ys, rfl, hq, rs⟩ := r.sqT
        refine ⟨p, ys, rfl, hq, ?_, e, μ, loc, ds, e1, a, rs, hz, h, q⟩
        rw [← rs.length, hz, lenT_len, hl]
      · cases h
    | _ => cases h
def noTup : Expr → Bool
  | .Tuple _ _ _ => false
  | _ => true
theorem no_stores {ts : List Expr} {ex : Expr} {env : Env} (h : noTup ex = true) : swappedStores ts ex env = pure none := by
  unfold swappedStores
  split
  · rename_i ts' vs heq
    split at heq <;> first | cases h | cases heq
  · rfl
theorem s_unp {ts : TgN} {x : Ex} {tg ex : Expr} {pos : Pos} (hg : PG X tg (gT X fa ca b ts)) (hx : PE X ex (tE X fa ca P b k W x)) (hc : noComp ex = true) (hw : swappedStores [tg] ex X.env = pure none) (hs : noStar tg = true) :
    PS X (.Assign [tg] ex pos) (tS X fa ca P b k W (.unp ts x)) :=
  (ps_asg hx hg (no_swap hc) hw (by cases tg <;> first | rfl | cases hs)).to fun D σ H ⟨e, μ, loc, a, h⟩ => goE a (post_go h) fun d μ' v H' loc' ok S st r => by
    cases hq : MI.setT ts d e with
    | none => rw [hq] at ok; exact ok.elim
    | some e1 =>
      rw [hq] at ok
      exact ⟨e, μ', loc', d, e1, a.next st S, r, hq, fun σ1 er => ok σ1 H' loc' S st er⟩
end
end MS

set_option maxRecDepth 100000
set_option maxHeartbeats 400000
/-! UwStm2: pairs, items, attributes, loops. -/
namespace MS
open PySem PySem.Spec PyProof.Rows L2
open MI (D SO Store R SR Ex Ts Sm TgN)

section
variable {X : Cx} {fa ca : Nat → Addr} {P : MI.Prog} {G : Gn} {b k n : Nat} {W : WX}
variable {pins : List (Addr × Obj)} {s : Shared} {σ : L2.St} {H : Hp} {e : MI.Env} {μ : Store} {loc : Loc}

/-- a, b = x, y -/
theorem s_par {i j : Nat} {x y : Ex} {ex ey : Expr} {n1 n2 : Str} {px py pt : Pos} {kt k2 : Nat} {pt2 pos : Pos} (g : Gd X fa ca P G b k n W) (hi : X.N[i]? = some n1) (hj : X.N[j]? = some n2) (hij : i ≠ j)
    (h1 : X.env.scope.names.lookup n1 = some .local) (h2 : X.env.scope.names.lookup n2 = some .local) (hx : PE X ex (tE X fa ca P b k W x)) (hy : PE X ey (tE X fa ca P b k W y)) (hs : [ex, ey].all noStar = true)
    (hw : swappedStores [.Tuple [.Name n1 px, .Name n2 py] kt pt] (.Tuple [ex, ey] k2 pt2) X.env = pure (some [n1, n2])) :
    PS X (.Assign [.Tuple [.Name n1 px, .Name n2 py] kt pt] (.Tuple [ex, ey] k2 pt2) pos) (tS X fa ca P b k W (.par i j x y)) :=
  (ps_par g.calm g.nd hi hj hij h1 h2 (PEs.args (.cons hx (.cons hy .nil)) hs) hw).to fun D σ H ⟨e, μ, loc, a, h⟩ => by
    refine ⟨e, μ, loc, a, ?_⟩
    have h := post_go h
    show post ((MI.evE P (MI.callN P k) b x e μ).bind fun u μ1 => (MI.evL P (MI.callN P k) b [y] e μ1).bind fun vs μ2 => .ok (u :: vs) μ2) _ _
    cases hq : MI.evE P (MI.callN P k) b x e μ with
    | no => rw [hq] at h; exact h.elim
    | ex z μ1 => rw [hq] at h; exact ExS.toX h a.er
    | ok u μ1 =>
      rw [hq] at h
      have h := post_go h
      show post (((MI.evE P (MI.callN P k) b y e μ1).bind fun u2 μ2 => .ok [u2] μ2).bind fun vs μ2 => .ok (u :: vs) μ2) _ _
      cases hq2 : MI.evE P (MI.callN P k) b y e μ1 with
      | no => rw [hq2] at h; exact h.elim
      | ex z μ2 => rw [hq2] at h; exact ExS.toX h a.er
      | ok u2 μ2 =>
        rw [hq2] at h
        intro vs H' loc' S st rd
        obtain ⟨v, v2, rfl, r1, r2⟩ := rd2 rd
        refine ⟨v, v2, rfl, ?_⟩
        have h : postS _ _ _ _ _ _ _ (if Nat.blt i e.length && Nat.blt j e.length then .nx ((e.set i (some u)).set j (some u2)) μ2 else .no) := h
        split at h
        · rename_i hz
          rw [Bool.and_eq_true] at hz
          exact h _ H' loc' S st (((a.er.mono st.keeps).set (Nat.blt_eq.mp hz.1) r1).set (by rw [List.length_set]; exact Nat.blt_eq.mp hz.2) r2)
        · exact h.elim

theorem ps_par3 {i j l : Nat} {x y z : Str} {a b c : Expr} {ta : TA} {px py pz pt : Pos} {kt k2 pt2} {pos : Pos} (hc : X.calm = true) (hN : X.N.Nodup) (hi : X.N[i]? = some x) (hj : X.N[j]? = some y) (hl : X.N[l]? = some z) (hij : i ≠ j) (hil : i ≠ l) (hjl : j ≠ l)
    (hx : X.env.scope.names.lookup x = some .local) (hy : X.env.scope.names.lookup y = some .local) (hz : X.env.scope.names.lookup z = some .local) (ha : PA X [a, b, c] ta)
    (hw : swappedStores [.Tuple [.Name x px, .Name y py, .Name z pz] kt pt] (.Tuple [a, b, c] k2 pt2) X.env = pure (some [x, y, z]))
    (hs : swapsWithSole [.Tuple [.Name x px, .Name y py, .Name z pz] kt pt] (.Tuple [a, b, c] k2 pt2) pos.line X.env = pure false := by rfl) :
    PS X (.Assign [.Tuple [.Name x px, .Name y py, .Name z pz] kt pt] (.Tuple [a, b, c] k2 pt2) pos) (fun D σ H => ta σ H fun vs H1 => ∃ v w u, vs = [v, w, u] ∧ D.nx (((σ.set i (some v)).set j (some w)).set l (some u)) H1) := by
  refine ⟨fun pins s σ H D I h => ?_⟩
  rw [exec_Assign_arm]
  refine wpAny_bind (wpAny_standAt ?_)
  rw [hs]
  refine wpAny_bind (wpAny_pure ?_)
  rw [if_neg (by decide)]
  refine wpAny_bind (Tuple_ (thn (ha.run _ pins s σ H _ I h) fun us s1 ⟨vs, H1, I1, r1, q1⟩ => ?_))
  obtain ⟨v, w, t, e1, q1⟩ := q1
  subst e1
  obtain ⟨u1, u2, u3, rfl, rv, rw', rt⟩ : ∃ u1 u2 u3, us = [u1, u2, u3] ∧ RelV v u1 ∧ RelV w u2 ∧ RelV t u3 := by
    cases r1 with
    | cons p q =>
      cases q with
      | cons p' q' =>
        cases q' with
        | cons p'' q'' =>
          cases q''
          exact ⟨_, _, _, rfl, p, p', p''⟩
  refine wpAny_newObj_type ?_ (by show 3 ≤ sizeLine; decide)
  have I2 : Inv X pins σ H1 { s1 with heap := s1.heap.push { cls := .type "tuple", data := .seq [u1, u2, u3].toArray } } := I1.kept (t' := s1.toks) fun b o e => Heap.get?_push_of_some _ e
  rw [hw]
  refine wpAny_bind (wpAny_pure ?_)
  show wpAny (model X.prog X.w) X.A (do rule "assign.swapped-stores"; let items ← unpackItems (.ref s1.heap.objs.size) 3 none; assignInOrder [fun v => bindName X.env z v, fun v => bindName X.env y v, fun v => bindName X.env x v] items.reverse; pure Flow.next) _ _ _
  refine wpAny_bind (wpAny_rule (wpAny_bind (unpackItems_tuple (items := #[u1, u2, u3]) (I.ok.hd hc) (IsTup.new s1.heap _) fun h' hx' => ?_)))
  have I3 := I2.kept (h' := h') (t' := s1.toks) fun b o e => hx' b o (Nat.ne_of_lt (Heap.lt_size e)) e
  show wpAny _ _ (assignInOrder [fun v => bindName X.env z v, fun v => bindName X.env y v, fun v => bindName X.env x v] [u3, u2, u1] >>= fun _ => pure Flow.next) _ _ _
  refine wpAny_bind (assignInOrder_cons (wpAny_bindName (store_ok I3 hN hl (.inl hz) rt (fun s2 I4 => ?_) (.inr hz))))
  refine assignInOrder_cons (wpAny_bindName (store_ok I4 hN hj (.inl hy) rw' (fun s3 I5 => ?_) (.inr hy)))
  refine assignInOrder_cons (wpAny_bindName (store_ok I5 hN hi (.inl hx) rv (fun s4 I6 => assignInOrder_nil (wpAny_pure ?_)) (.inr hx)))
  have e3 : (((σ.set l (some t)).set j (some w)).set i (some v)) = (((σ.set i (some v)).set j (some w)).set l (some t)) := by
    rw [List.set_comm _ _ (Ne.symm hjl), List.set_comm (some t) (some v) (Ne.symm hil), List.set_comm (some w) (some v) (Ne.symm hij)]
  rw [e3] at I6
  exact ⟨_, H1, I6, q1⟩
theorem s_par3 {i j l : Nat} {x y z : Ex} {ex ey ez : Expr} {n1 n2 n3 : Str} {px py pz pt : Pos} {kt k2 : Nat} {pt2 pos : Pos} (g : Gd X fa ca P G b k n W) (hi : X.N[i]? = some n1) (hj : X.N[j]? = some n2) (hl : X.N[l]? = some n3) (hij : i ≠ j) (hil : i ≠ l) (hjl : j ≠ l)
    (h1 : X.env.scope.names.lookup n1 = some .local) (h2 : X.env.scope.names.lookup n2 = some .local) (h3 : X.env.scope.names.lookup n3 = some .local) (hx : PE X ex (tE X fa ca P b k W x)) (hy : PE X ey (tE X fa ca P b k W y)) (hz : PE X ez (tE X fa ca P b k W z)) (hs : [ex, ey, ez].all noStar = true)
    (hw : swappedStores [.Tuple [.Name n1 px, .Name n2 py, .Name n3 pz] kt pt] (.Tuple [ex, ey, ez] k2 pt2) X.env = pure (some [n1, n2, n3])) :
    PS X (.Assign [.Tuple [.Name n1 px, .Name n2 py, .Name n3 pz] kt pt] (.Tuple [ex, ey, ez] k2 pt2) pos) (tS X fa ca P b k W (.par3 i j l x y z)) :=
  (ps_par3 g.calm g.nd hi hj hl hij hil hjl h1 h2 h3 (PEs.args (.cons hx (.cons hy (.cons hz .nil))) hs) hw).to fun D σ H ⟨e, μ, loc, a, h⟩ => by
    refine ⟨e, μ, loc, a, ?_⟩
    have h := post_go h
    show post ((MI.evE P (MI.callN P k) b x e μ).bind fun u μ1 => (MI.evL P (MI.callN P k) b [y, z] e μ1).bind fun vs μ2 => .ok (u :: vs) μ2) _ _
    cases hq : MI.evE P (MI.callN P k) b x e μ with
    | no => rw [hq] at h; exact h.elim
    | ex z μ1 => rw [hq] at h; exact ExS.toX h a.er
    | ok u μ1 =>
      rw [hq] at h
      have h := post_go h
      show post (((MI.evE P (MI.callN P k) b y e μ1).bind fun u2 μ2 => (MI.evL P (MI.callN P k) b [z] e μ2).bind fun vs μ2 => .ok (u2 :: vs) μ2).bind fun vs μ2 => .ok (u :: vs) μ2) _ _
      cases hq2 : MI.evE P (MI.callN P k) b y e μ1 with
      | no => rw [hq2] at h; exact h.elim
      | ex z μ2 => rw [hq2] at h; exact ExS.toX h a.er
      | ok u2 μ2 =>
        rw [hq2] at h
        have h := post_go h
        show post ((((MI.evE P (MI.callN P k) b z e μ2).bind fun u3 μ3 => .ok [u3] μ3).bind fun vs μ2 => .ok (u2 :: vs) μ2).bind fun vs μ2 => .ok (u :: vs) μ2) _ _
        cases hq3 : MI.evE P (MI.callN P k) b z e μ2 with
        | no => rw [hq3] at h; exact h.elim
        | ex z μ3 => rw [hq3] at h; exact ExS.toX h a.er
        | ok u3 μ3 =>
          rw [hq3] at h
          intro vs H' loc' S st rd
          obtain ⟨v, v2, v3, rfl, r1, r2, r3⟩ : ∃ v v2 v3, vs = [v, v2, v3] ∧ RDat ⟨X.K, fa, ca⟩ μ3 loc' H' u v ∧ RDat ⟨X.K, fa, ca⟩ μ3 loc' H' u2 v2 ∧ RDat ⟨X.K, fa, ca⟩ μ3 loc' H' u3 v3 := by
            cases rd with | cons p q => cases q with | cons p' q' => cases q' with | cons p'' q'' => cases q''; exact ⟨_, _, _, rfl, p, p', p''⟩
          refine ⟨v, v2, v3, rfl, ?_⟩
          have h : postS _ _ _ _ _ _ _ (if Nat.blt i e.length && Nat.blt j e.length && Nat.blt l e.length then .nx (((e.set i (some u)).set j (some u2)).set l (some u3)) μ3 else .no) := h
          split at h
          · rename_i hz
            rw [Bool.and_eq_true, Bool.and_eq_true] at hz
            exact h _ H' loc' S st ((((a.er.mono st.keeps).set (Nat.blt_eq.mp hz.1.1) r1).set (by rw [List.length_set]; exact Nat.blt_eq.mp hz.1.2) r2).set (by rw [List.length_set, List.length_set]; exact Nat.blt_eq.mp hz.2) r3)
          · exact h.elim

theorem no_swapS {ex t : Expr} {l : Nat} {env : Env} (h : noComp ex = true) : swapsWithSole [t] ex l env = pure false := no_swap h
/-- o[i] = x -/
theorem s_asgS {o i x : Ex} {eo ei ex : Expr} {ps pos : Pos} (g : Gd X fa ca P G b k n W) (ho : PE X eo (tE X fa ca P b k W o)) (hi : PE X ei (tE X fa ca P b k W i)) (hx : PE X ex (tE X fa ca P b k W x)) (hc : noComp ex = true) (hp : plainIx ei = true) :
    PS X (.Assign [.Subscript eo ei ps] ex pos) (tS X fa ca P b k W (.asgS o i x)) :=
  (ps_asg hx (pg_sub ho hi set_list (by intro v; cases ei <;> first | rfl | cases hp)) (no_swapS hc) (by rfl) (by rfl)).to fun D σ H ⟨e, μ, loc, a, h⟩ => goE a (post_go h) fun d μ' v H' loc' ok S st r => by
    have a1 := a.next st S
    refine goE a1 (post_mono (post_go ok) (fun _ _ z => z) fun _ _ z => z.next st) fun d2 μ2 v2 H2 loc2 ok S2 st2 r2 => ?_
    have a2 := a1.next st2 S2
    refine goE a2 (post_mono (post_go ok) (fun _ _ z => z) fun _ _ z => z.next (st.trans st2)) fun d3 μ3 v3 H3 loc3 ok S3 st3 r3 => ?_
    have st' := (st.trans st2).trans st3
    have rv := (r.mono st2.keeps).mono st3.keeps
    have ro := r2.mono st3.keeps
    cases d2 with
    | ref j =>
      cases d3 with
      | int kk =>
        unfold MI.setA at ok
        dsimp only at ok
        split at ok
        · rename_i hb
          split at ok
          · rename_i ds hm
            split at ok
            · rename_i m hm2
              cases r3
              cases ro with
              | @ref _ q hl =>
                obtain ⟨xs, hxs, rds⟩ := S3.rel j _ q hm hl
                obtain ⟨S4, st4⟩ := set_lst (b := b) S3 hm hl (Nat.le_of_ble_eq_true hb) (rds.set rv m)
                refine ⟨q.a, xs, kk, m, rfl, rfl, hxs, by rw [← ix_ixN, ← rds.length]; exact hm2, ?_⟩
                exact ok σ _ loc3 S4 (st'.trans st4) ((a.er.mono st'.keeps).mono st4.keeps)
            · exact ok.elim
          · exact ok.elim
        · exact ok.elim
      | _ => exact ok.elim
    | _ => cases d3 <;> exact ok.elim
/-- o.m = x -/
theorem s_asgA {o x : Ex} {eo ex : Expr} {m : Nat} {nm : Str} {ps pos : Pos} (g : Gd X fa ca P G b k n W) (hn : G.at_[m]? = some nm) (ho : PE X eo (tE X fa ca P b k W o)) (hx : PE X ex (tE X fa ca P b k W x)) (hc : noComp ex = true) :
    PS X (.Assign [.Attribute eo nm ps] ex pos) (tS X fa ca P b k W (.asgA m o x)) :=
  (SlX.ps_sl ho hx (no_swap hc)).to fun D σ H ⟨e, μ, loc, a, h⟩ => goE a (post_go h) fun d μ' v H' loc' ok S st r => by
    have a1 := a.next st S
    refine goE a1 (post_mono (post_go ok) (fun _ _ z => z) fun _ _ z => z.next st) fun d2 μ2 v2 H2 loc2 ok S2 st2 r2 => ?_
    have st' := st.trans st2
    have rv := r.mono st2.keeps
    unfold MI.setF at ok
    split at ok
    · rename_i j
      split at ok
      · rename_i hb
        split at ok
        · rename_i c fs hm
          split at ok
          · rename_i i hi
            split at ok
            · rename_i hlt
              obtain ⟨kk, hk, F⟩ := clss g hi
              obtain ⟨x', p', hx1, SL⟩ := F.slot _ i hi
              rw [hn] at hx1
              cases (Option.some.inj hx1)
              cases r2 with
              | @ref _ q hl =>
                obtain ⟨nd, vs, sl, hd, ro⟩ := S2.rel j _ q hm hl
                obtain ⟨S4, st4⟩ := set_obj (b := b) S2 hm hl (Nat.le_of_ble_eq_true hb) sl ro nd (Nat.blt_eq.mp hlt) rv
                refine ⟨q.a, ca c, q.dx, p', vs, i, rfl, sl, F.sc, SL, ?_⟩
                exact ok σ _ loc2 S4 (st'.trans st4) ((a.er.mono st'.keeps).mono st4.keeps)
            · exact ok.elim
          · exact ok.elim
        · exact ok.elim
      · exact ok.elim
    · exact ok.elim
/-- i op= x -/
def augOp : MI.Op2 → Bool
  | .add => true
  | .sub => true
  | _ => false
theorem s_aug {i : Nat} {op : MI.Op2} {x : Ex} {ex : Expr} {nm : Str} {ps pos : Pos} (hop : augOp op = true) (g : Gd X fa ca P G b k n W) (hi : X.N[i]? = some nm) (hl : X.env.scope.names.lookup nm = some .local) (hx : PE X ex (tE X fa ca P b k W x)) :
    PS X (.AugAssign (.Name nm ps) (opOf op) ex pos) (tS X fa ca P b k W (.aug i op x)) := by
  have main : ∀ {f : Int → Int → Int}, PIp X (opOf op) (ipI f) → (∀ u v μ, MI.augC op u v μ = match u, v with | .int p, .int q => .ok (.int (f p q)) μ | _, _ => .no) → PS X (.AugAssign (.Name nm ps) (opOf op) ex pos) (tS X fa ca P b k W (.aug i op x)) := fun {f} hp hf =>
    (ps_aug g.nd hi (.inl hl) hx hp (.inr hl)).to fun D σ H ⟨e, μ, loc, a, h⟩ => by
      have h : postS _ _ _ _ _ _ _ (match (e[i]?).join with
        | none => .no
        | some u => (MI.evE P (MI.callN P k) b x e μ).go e fun v μ1 => (MI.augC op u v μ1).go e fun w μ2 => MI.setV i w e μ2) := h
      cases hj : (e[i]?).join with
      | none => rw [hj] at h; exact h.elim
      | some u =>
        rw [hj] at h
        have hj' : e[i]? = some (some u) := by
          cases q : e[i]? with
          | none => rw [q] at hj; cases hj
          | some o => rw [q] at hj; exact congrArg some hj
        obtain ⟨v0, hv0, r0⟩ := a.er.at_ i u hj'
        refine ⟨v0, hv0, goE a (post_go h) fun d μ' v H' loc' ok S st r => ?_⟩
        rw [hf] at ok
        cases u with
        | int p =>
          cases d with
          | int q =>
            cases r0
            cases r
            refine ⟨p, q, rfl, rfl, ?_⟩
            have ok : postS _ _ _ _ _ _ _ (MI.setV i (.int (f p q)) e μ') := ok
            unfold MI.setV at ok
            split at ok
            · rename_i hz
              exact ok _ H' loc' S st ((a.er.mono st.keeps).set (Nat.blt_eq.mp hz) (.int _))
            · exact ok.elim
          | _ => exact ok.elim
        | _ => cases d <;> exact ok.elim
  cases op with
  | add => exact main ip_add fun u v μ => by cases u <;> cases v <;> rfl
  | sub => exact main ip_sub fun u v μ => by cases u <;> cases v <;> rfl
  | _ => exact absurd hop (by decide)
end
end MS

set_option maxRecDepth 100000
set_option maxHeartbeats 400000
/-! UwLoop: while and for. -/
namespace MS
open PySem PySem.Spec PyProof.Rows L2
open MI (D SO Store R SR Ex Ts Sm TgN)

section
variable {X : Cx} {fa ca : Nat → Addr} {P : MI.Prog} {G : Gn} {b k n : Nat} {W : WX}
variable {pins : List (Addr × Obj)} {s : Shared} {σ : L2.St} {H : Hp} {e : MI.Env} {μ : Store} {loc : Loc}

/-- what a body's end leads to in a loop that goes on by nxt -/
theorem post_body {A : Ad} {r : SR} {nxt : MI.Env → Store → SR} {D : Ends} {N : L2.St → Hp → Prop} {μ1 : Store} {loc1 : Loc} {H1 : Hp}
    (h : postS A b μ loc H W D (match r with | .nx e2 μ2 => nxt e2 μ2 | .ct e2 μ2 => nxt e2 μ2 | .bk e2 μ2 => .nx e2 μ2 | r => r)) (st : Stp b μ loc H μ1 loc1 H1)
    (hN : ∀ e2 μ2 σ' H' loc', postS A b μ loc H W D (nxt e2 μ2) → Sim A μ2 loc' H' → Stp b μ1 loc1 H1 μ2 loc' H' → ER A loc' (Own μ2 loc' 0) H' e2 σ' → N σ' H') :
    postS A b μ1 loc1 H1 W { D with nx := N, ct := N, bk := D.nx } r := by
  cases r with
  | nx e2 μ2 => exact fun σ' H' loc' S t er => hN e2 μ2 σ' H' loc' h S t er
  | ct e2 μ2 => exact fun σ' H' loc' S t er => hN e2 μ2 σ' H' loc' h S t er
  | bk e2 μ2 => exact fun σ' H' loc' S t er => h σ' H' loc' S (st.trans t) er
  | rt d μ2 => exact fun v H' loc' S t r => h v H' loc' S (st.trans t) r
  | ex x e' μ' => exact fun σ' H' loc' cls d S t r z => h σ' H' loc' cls d S (st.trans t) r z
  | no => exact h

theorem s_whl {c : Ts} {x : List Sm} {ec : Expr} {ex : List Stmt} {pos : Pos} (g : Gd X fa ca P G b k n W) (hc : PT X ec (tT X fa ca P b k W c)) (hx : PSs X ex (tSS X fa ca P b k W x)) :
    PS X (.While ec ex [] pos) (tS X fa ca P b k W (.whl c x)) :=
  (ps_while g.po hc hx).to fun D σ0 H0 ⟨e0, μ0, loc0, a0, h0⟩ => by
    refine ⟨fun m σ H => ∃ e μ loc, At ⟨X.K, fa, ca⟩ b e σ μ loc H ∧ Stp b μ0 loc0 H0 μ loc H ∧ postS ⟨X.K, fa, ca⟩ b μ0 loc0 H0 W D (MI.whileN (MI.evT P (MI.callN P k) b c) (MI.exL P (MI.callN P k) b x) m e μ), ⟨P.fuel, e0, μ0, loc0, a0, .refl, h0⟩, ?_⟩
    rintro m σ H ⟨e, μ, loc, a, st, h⟩
    cases m with
    | zero => exact h.elim
    | succ m =>
      unfold MI.whileN at h
      cases hq : MI.evT P (MI.callN P k) b c e μ with
      | no => rw [hq] at h; exact h.elim
      | ex z μ1 =>
        rw [hq] at h
        refine ⟨e, μ, loc, a, ?_⟩
        rw [hq]
        exact (ExS.next h st).toX a.er
      | ok d μ1 =>
        refine ⟨e, μ, loc, a, ?_⟩
        rw [hq] at h ⊢
        intro H1 loc1 S st1
        cases d with
        | false => exact h σ H1 loc1 S (st.trans st1) (a.er.mono st1.keeps)
        | true =>
          rw [if_pos rfl]
          refine ⟨_, fun σ' H' q => ⟨m, Nat.lt_succ_self m, q⟩, e, μ1, loc1, a.next st1 S, ?_⟩
          exact post_body h (st.trans st1) fun e2 μ2 σ' H' loc' h2 S2 t er => ⟨e2, μ2, loc', ⟨S2, er, Nat.le_trans (Nat.le_trans a.hb st1.len) t.len⟩, (st.trans st1).trans t, h2⟩

def rngN : Str := Str.ofString "range"
def notSet : Expr → Bool
  | .Set _ _ _ => false
  | _ => true
theorem fold_set {it : Expr} {env : Env} (h : notSet it = true) : ∀ x, foldedSetIterable it env x = pure x := by
  intro x
  cases it <;> first | rfl | cases h
theorem s_forR {i : Nat} {a : Ex} {x : List Sm} {ea : Expr} {ex : List Stmt} {nm : Str} {p1 p2 p3 pos : Pos} (g : Gd X fa ca P G b k n W) (hi : X.N[i]? = some nm) (hl : X.env.scope.names.lookup nm = some .local) (hg : Gl X "range")
    (ha : PE X ea (tE X fa ca P b k W a)) (hs : noStar ea = true) (hx : PSs X ex (tSS X fa ca P b k W x)) :
    PS X (.For (.Name nm p1) (.Call (.Name "range" p2) [ea] [] p3) ex [] pos) (tS X fa ca P b k W (.forR i a x)) :=
  (ps_for g.po g.calm (pi_range1 hg (g.facts.free _ (by decide +kernel)) (PEs.args (.cons ha .nil) (by simp [hs])) (star_cons hs)) (pg_name g.nd hi (.inl hl) (.inr hl)) hx (fold_set rfl)).to fun D σ0 H0 ⟨e0, μ00, loc00, a0, h0⟩ => by
    have h0 := post_go h0
    refine ⟨e0, μ00, loc00, a0, ?_⟩
    show post ((MI.evE P (MI.callN P k) b a e0 μ00).bind fun u2 μ2 => .ok [u2] μ2) _ _
    cases hq : MI.evE P (MI.callN P k) b a e0 μ00 with
    | no => rw [hq] at h0; exact h0.elim
    | ex z μ1 => rw [hq] at h0; exact ExS.toX h0 a0.er
    | ok u μ0 =>
      rw [hq] at h0
      intro vs H' loc0 S st0 rd
      obtain ⟨v, rfl, rv⟩ := rd1 rd
      cases u with
      | int j =>
        cases rd_int rv
        have h0 : postS ⟨X.K, fa, ca⟩ b μ00 loc00 H0 W D (if decide (j < 4611686018427387904) && decide (-4611686018427387904 ≤ j) then MI.forN i (MI.exL P (MI.callN P k) b x) j.toNat 0 e0 μ0 else .no) := h0
        split at h0
        · rename_i hz
          rw [Bool.and_eq_true] at hz
          have z1 : j < 4611686018427387904 := of_decide_eq_true hz.1
          have z2 : -4611686018427387904 ≤ j := of_decide_eq_true hz.2
          have e62 : ((2 : Int) ^ 62) = 4611686018427387904 := by decide
          have a1 := a0.next st0 S
          have h0 := h0.next st0
          refine ⟨j, rfl, by omega, by omega, ?_⟩
          refine for_range (lo := 0) (n := j.toNat) (fun m σ H => ∃ e μ loc, At ⟨X.K, fa, ca⟩ b e σ μ loc H ∧ Stp b μ0 loc0 H' μ loc H ∧ postS ⟨X.K, fa, ca⟩ b μ0 loc0 H' W D (MI.forN i (MI.exL P (MI.callN P k) b x) (j.toNat - m) (0 + (m : Int)) e μ))
            ⟨e0, μ0, loc0, a1, .refl, by simpa using h0⟩ ?_ ?_
          · rintro m σ H hm ⟨e, μ, loc, a, st, h⟩
            have e1 : j.toNat - m = (j.toNat - (m + 1)) + 1 := by omega
            rw [e1] at h
            unfold MI.forN at h
            split at h
            · rename_i hlt
              refine ⟨e.set i (some (.int (0 + (m : Int)))), μ, loc, ⟨a.sim, a.er.set (Nat.blt_eq.mp hlt) (.int _), a.hb⟩, ?_⟩
              refine post_body h st fun e2 μ2 σ' H' loc' h2 S2 t er => ⟨e2, μ2, loc', ⟨S2, er, Nat.le_trans a.hb t.len⟩, st.trans t, ?_⟩
              have e2' : (0 + (m : Int)) + 1 = 0 + ((m + 1 : Nat) : Int) := by omega
              rw [← e2']
              exact h2
            · exact h.elim
          · rintro σ H ⟨e, μ, loc, a, st, h⟩
            rw [Nat.sub_self] at h
            exact h σ H loc a.sim st a.er
        · exact h0.elim
      | _ => exact h0.elim
theorem drop_cons {α : Type} : ∀ {l : List α} {i : Nat} {x : α}, l[i]? = some x → l.drop i = x :: l.drop (i + 1)
  | [], _, _, h => by simp at h
  | a :: r, 0, x, h => by simp at h; rw [h]; rfl
  | a :: r, i + 1, x, h => by
    show r.drop i = x :: r.drop (i + 1)
    exact drop_cons (by simpa using h)
/-- items that stay -/
theorem tup_stay {ds : List D} {p : Addr} {Z : Addr → Prop} {A : Ad} (r : RD A loc Z H (.tup ds) (.ref p)) : ∃ xs, RDs A loc Z H ds xs ∧ ∀ (loc' : Loc) (Z' : Addr → Prop) (H' : Hp), Keeps loc loc' Z Z' H H' → SqT A.K H' p xs ∧ RDs A loc' Z' H' ds xs := by
  cases r with
  | tupH h z r => exact ⟨_, r, fun loc' Z' H' k => ⟨.inl (k.rd h z).1, r.mono k⟩⟩
  | tupK h r => exact ⟨_, r, fun loc' Z' H' k => ⟨.inr h, r.mono k⟩⟩
theorem lst_stay {ds : List D} {p : Addr} {Z : Addr → Prop} {A : Ad} (r : RD A loc Z H (.lst ds) (.ref p)) : ∃ xs, RDs A loc Z H ds xs ∧ ∀ (loc' : Loc) (Z' : Addr → Prop) (H' : Hp), Keeps loc loc' Z Z' H H' → SqL A.K H' p xs ∧ RDs A loc' Z' H' ds xs := by
  cases r with
  | lstH h z r => exact ⟨_, r, fun loc' Z' H' k => ⟨.inl (k.rd h z).1, r.mono k⟩⟩
  | lstK h r => exact ⟨_, r, fun loc' Z' H' k => ⟨.inr h, r.mono k⟩⟩
theorem post_mono' {α : Type} {r : R α} {ok ok' : α → Store → Prop} {ex ex' : D → Store → Prop} (h : post r ok ex) (h1 : ∀ a μ, ok a μ → ok' a μ) (h2 : ∀ x μ, ex x μ → ex' x μ) : post r ok' ex' := post_mono h h1 h2
/-- an iterable, either a tuple or a list -/
theorem pi_seq {l : Expr} {tl : TE} {tg : Expr} (hl : PE X l tl) : PI X tg l (fun σ H R => tl σ H fun x H1 => ∃ a, x = .ref a ∧ (((∃ xs, SqL X.K H1 a xs) ∧ R (Itl X.K a) H1) ∨ ((∃ xs, SqT X.K H1 a xs) ∧ R (Itt X.K a) H1))) := by
  refine ⟨fun pins s σ H R I h => ?_⟩
  refine thn (hl.run pins s σ H _ I h) fun v s1 ⟨x, H1, I1, r1, a, e, q⟩ => ?_
  subst e
  cases r1
  have fr : ∀ b ∈ [s1.heap.objs.size], FpOk X pins H1 b := fun b hb => by
    have e : b = s1.heap.objs.size := by simpa using hb
    subst e
    exact I1.fpOk (Nat.le_refl _) (I1.hok.fresh (Nat.le_refl _))
  rcases q with ⟨⟨xs, hq⟩, q⟩ | ⟨⟨xs, hq⟩, q⟩
  · obtain ⟨its, rv, p, hz⟩ := I1.list hq
    refine wpAny_pyIter_list p.isList ?_
    exact ⟨s1.heap.objs.size, [s1.heap.objs.size], _, _, H1, rfl, I1.kept (t' := s1.toks) fun b o e => Heap.get?_push_of_some _ e, turn_list a _, ⟨_, Heap.get?_push_size _ rfl, rfl, rfl⟩, fr, q⟩
  · obtain ⟨its, rv, p, hz⟩ := I1.tuple hq
    refine wpAny_pyIter_tuple (show s1.heap.IsTuple a its.toArray from p) ?_
    exact ⟨s1.heap.objs.size, [s1.heap.objs.size], _, _, H1, rfl, I1.kept (t' := s1.toks) fun b o e => Heap.get?_push_of_some _ e, turn_tuple a _, ⟨_, Heap.get?_push_size _ rfl, rfl, rfl⟩, fr, q⟩
theorem s_forS {t : TgN} {a : Ex} {x : List Sm} {tg ea : Expr} {ex : List Stmt} {pos : Pos} (g : Gd X fa ca P G b k n W) (ht : PG X tg (gT X fa ca b t)) (ha : PE X ea (tE X fa ca P b k W a)) (hx : PSs X ex (tSS X fa ca P b k W x)) (hf : notSet ea = true) :
    PS X (.For tg ea ex [] pos) (tS X fa ca P b k W (.forS t a x)) :=
  (ps_for g.po g.calm (pi_seq ha) ht hx (fold_set hf)).to fun D σ0 H0 ⟨e0, μ00, loc00, a0, h0⟩ => goE a0 (post_go h0) fun d μ0 v H' loc0 h0 S st0 rv => by
    have a1 := a0.next st0 S
    have h0 := h0.next st0
    have turn : ∀ (ds : List MI.D) (xs : List V), RDsat ⟨X.K, fa, ca⟩ μ0 loc0 H' ds xs → ∀ (m : Nat) (y : V) (σ : L2.St) (H : Hp), xs[m]? = some y →
        (∃ e μ loc, At ⟨X.K, fa, ca⟩ b e σ μ loc H ∧ Stp b μ0 loc0 H' μ loc H ∧ postS ⟨X.K, fa, ca⟩ b μ0 loc0 H' W D (MI.forD t (MI.exL P (MI.callN P k) b x) (ds.drop m) e μ)) →
        gT X fa ca b t y σ H fun σ2 H2 => tSS X fa ca P b k W x { D with
          nx := fun σ H => ∃ e μ loc, At ⟨X.K, fa, ca⟩ b e σ μ loc H ∧ Stp b μ0 loc0 H' μ loc H ∧ postS ⟨X.K, fa, ca⟩ b μ0 loc0 H' W D (MI.forD t (MI.exL P (MI.callN P k) b x) (ds.drop (m + 1)) e μ),
          ct := fun σ H => ∃ e μ loc, At ⟨X.K, fa, ca⟩ b e σ μ loc H ∧ Stp b μ0 loc0 H' μ loc H ∧ postS ⟨X.K, fa, ca⟩ b μ0 loc0 H' W D (MI.forD t (MI.exL P (MI.callN P k) b x) (ds.drop (m + 1)) e μ), bk := D.nx } σ2 H2 := by
      rintro ds xs rds m y σ H hy ⟨e, μ, loc, a, st, h⟩
      have hlt : m < ds.length := by rw [rds.length]; exact (List.getElem?_eq_some_iff.mp hy).1
      have hd : ds[m]? = some ds[m] := List.getElem?_eq_getElem hlt
      obtain ⟨y', hy', ry⟩ := (rds.mono st.keeps).get hd
      rw [hy] at hy'
      cases (Option.some.inj hy')
      rw [drop_cons hd] at h
      unfold MI.forD at h
      cases hs : MI.setT t ds[m] e with
      | none => rw [hs] at h; exact h.elim
      | some e1 =>
        rw [hs] at h
        refine ⟨e, μ, loc, ds[m], e1, a, ry, hs, fun σ1 er => ⟨e1, μ, loc, ⟨a.sim, er, a.hb⟩, ?_⟩⟩
        exact post_body h st fun e2 μ2 σ' H' loc' h2 S2 t er => ⟨e2, μ2, loc', ⟨S2, er, Nat.le_trans a.hb t.len⟩, st.trans t, h2⟩
    have done : ∀ (ds : List MI.D) (m : Nat) (σ : L2.St) (H : Hp), ds.length ≤ m → (∃ e μ loc, At ⟨X.K, fa, ca⟩ b e σ μ loc H ∧ Stp b μ0 loc0 H' μ loc H ∧ postS ⟨X.K, fa, ca⟩ b μ0 loc0 H' W D (MI.forD t (MI.exL P (MI.callN P k) b x) (ds.drop m) e μ)) → D.nx σ H := by
      rintro ds m σ H hm ⟨e, μ, loc, a, st, h⟩
      rw [List.drop_eq_nil_iff.mpr hm] at h
      exact h σ H loc a.sim st a.er
    cases d with
    | tup ds =>
      obtain ⟨p, _, rfl, _, _⟩ := rv.sqT
      obtain ⟨xs, rds, stay⟩ := tup_stay rv
      refine ⟨p, rfl, .inr ⟨⟨xs, (stay loc0 _ H' (Stp.refl (b := b)).keeps).1⟩, ?_⟩⟩
      refine for_tup (xs := xs) (fun m σ H => ∃ e μ loc, At ⟨X.K, fa, ca⟩ b e σ μ loc H ∧ Stp b μ0 loc0 H' μ loc H ∧ postS ⟨X.K, fa, ca⟩ b μ0 loc0 H' W D (MI.forD t (MI.exL P (MI.callN P k) b x) (ds.drop m) e μ))
        ⟨e0, μ0, loc0, a1, .refl, h0⟩ (fun m σ H _ ⟨e, μ, loc, a, st, h⟩ => (stay loc _ H st.keeps).1) (fun m y σ H hy q => turn ds xs rds m y σ H hy q) fun σ H q => done ds xs.length σ H (Nat.le_of_eq rds.length) q
    | lst ds =>
      obtain ⟨p, _, rfl, _, _⟩ := rv.sqL
      obtain ⟨xs, rds, stay⟩ := lst_stay rv
      refine ⟨p, rfl, .inl ⟨⟨xs, (stay loc0 _ H' (Stp.refl (b := b)).keeps).1⟩, ?_⟩⟩
      refine for_list (xs := xs) (fun m σ H => ∃ e μ loc, At ⟨X.K, fa, ca⟩ b e σ μ loc H ∧ Stp b μ0 loc0 H' μ loc H ∧ postS ⟨X.K, fa, ca⟩ b μ0 loc0 H' W D (MI.forD t (MI.exL P (MI.callN P k) b x) (ds.drop m) e μ))
        ⟨e0, μ0, loc0, a1, .refl, h0⟩ (fun m σ H _ ⟨e, μ, loc, a, st, h⟩ => (stay loc _ H st.keeps).1) (fun m y σ H hy q => turn ds xs rds m y σ H hy q) fun σ H q => done ds xs.length σ H (Nat.le_of_eq rds.length) q
    | _ => exact h0.elim
end
end MS

set_option maxRecDepth 100000
set_option maxHeartbeats 1000000
/-! UwCheck: is this code read by that tree; the soundness of the whole. -/
namespace MS
open PySem PySem.Spec PyProof.Rows L2
open MI (D SO Store R SR Ex Ts Sm TgN)

/-- the view of a def's text -/
structure Sc where
  names : List (Str × NameKind)
  N : List Str
  G : Gn
  P : MI.Prog

def swapT (look : Str → Option NameKind) (ts vs : List Expr) : Option (Option (List Str)) :=
    if (!(ts.length == 2 || ts.length == 3) || vs.length != ts.length) = true then some none else
    if (vs.any fun | .Starred .. => true | _ => false) = true then some none else
    let line := (ts.head?.map (·.pos.line)).getD 0
    let names := ts.filterMap fun
      | .Name id pos => if look id == some .local && pos.line == line then some id else none
      | _ => none
    if (names.length != ts.length || names.eraseDups.length != names.length) = true then some none else
    if (vs.all (foldedForSure 8)) = true then some none else
    if (vs.all (constantsAlone 8)) = true then none else some (some names)
theorem swapT_ok {env : Env} {ts vs : List Expr} {k k2 : Nat} {p p2 : Pos} {r : Option (List Str)} (hb : env.blockKind = .function) (h : swapT env.kindOf ts vs = some r) : swappedStores [.Tuple ts k p] (.Tuple vs k2 p2) env = pure r := by
  unfold swapT at h
  unfold swappedStores
  dsimp only at h ⊢
  have e0 : (env.blockKind != ScopeKind.function) = false := by rw [hb]; rfl
  rw [e0, Bool.or_false]
  split at h
  · rename_i c; cases (Option.some.inj h); rw [if_pos c]
  · rename_i c1
    rw [if_neg c1]
    split at h
    · rename_i c; cases (Option.some.inj h); exact if_pos c
    · rename_i c2
      refine (if_neg c2).trans ?_
      split at h
      · rename_i c; cases (Option.some.inj h); exact if_pos c
      · rename_i c3
        refine (if_neg c3).trans ?_
        split at h
        · rename_i c; cases (Option.some.inj h); exact if_pos c
        · rename_i c4
          refine (if_neg c4).trans ?_
          split at h
          · cases h
          · rename_i c5
            cases (Option.some.inj h)
            exact if_neg c5

def okN (x : Str) : Bool := !(x == ("__debug__" : Str)) && !(x == ("__classdict__" : Str))
def Sc.loc (Y : Sc) (x : Str) : Bool := Y.names.lookup x == some .local
def Sc.glo (Y : Sc) (x : Str) : Bool := Y.names.lookup x == some .globalImplicit && okN x
def nthIs (l : List Str) (i : Nat) (x : Str) : Bool := match l[i]? with
  | some y => decide (y = x)
  | none => false
def nthIsO (l : List (Option Str)) (i : Nat) (x : Str) : Bool := match l[i]? with
  | some (some y) => decide (y = x)
  | _ => false
def Sc.isVar (Y : Sc) (i : Nat) (x : Str) : Bool := nthIs Y.N i x && Y.loc x && okN x
def cpIs (op : MI.Cp) (o : CmpOp) : Bool := match op, o with
  | .eq, .Eq => true
  | .ne, .NotEq => true
  | .lt, .Lt => true
  | .le, .LtE => true
  | .gt, .Gt => true
  | .ge, .GtE => true
  | _, _ => false
def opIs (op : MI.Op2) (o : Operator) : Bool := match op, o with
  | .add, .Add => true
  | .sub, .Sub => true
  | .mul, .Mult => true
  | .fdiv, .FloorDiv => true
  | .mod, .Mod => true
  | .pow, .Pow => true
  | _, _ => false
theorem cpIs_ok {op : MI.Cp} {o : CmpOp} (h : cpIs op o = true) : o = cpOf op := by cases op <;> cases o <;> first | rfl | cases h
theorem opIs_ok {op : MI.Op2} {o : Operator} (h : opIs op o = true) : o = opOf op := by cases op <;> cases o <;> first | rfl | cases h
def isNoneC : Expr → Bool
  | .Constant .none _ _ => true
  | _ => false
def litIs (d : D) (c : Const) : Bool := match d, c with
  | .int i, .int j => decide (i = j)
  | .bl i, .bool j => i == j
  | .non, .none => true
  | .str x, .str y => decide (x = y)
  | _, _ => false
def plainTest : Expr → Bool
  | .UnaryOp .Not _ _ => false
  | .BoolOp _ _ _ => false
  | .IfExp _ _ _ _ => false
  | .Compare _ _ _ _ => false
  | _ => true
theorem plain_test {e : Expr} {env : Env} (h : plainTest e = true) : ∀ whole, isTrue e env whole = (do let v ← whole; standAt e.pos; holding [v] (truthy v)) := by
  intro w
  cases e with
  | UnaryOp op _ _ => cases op <;> first | rfl | cases h
  | _ => first | rfl | cases h

mutual
def mE (Y : Sc) : Ex → Expr → Bool
  | .no, _ => true
  | .var i, ex => match ex with | .Name x _ => Y.isVar i x | _ => false
  | .lit d, ex => match ex with | .Constant c _ _ => litIs d c | _ => false
  | .gl i, ex => match ex with | .Name x _ => nthIs Y.G.gl i x && Y.glo x | _ => false
  | .fnv i, ex => match ex with | .Name x _ => nthIsO Y.G.fn i x && Y.glo x | _ => false
  | .clv i, ex => match ex with | .Name x _ => nthIs Y.G.cl i x && Y.glo x | _ => false
  | .tyv t, ex => match ex with | .Name x _ => decide (x = Str.ofString t) && MI.tyNames.contains t && Y.glo x | _ => false
  | .bin op a b, ex => match ex with | .BinOp x o y _ => opIs op o && mE Y a x && mE Y b y | _ => false
  | .neg a, ex => match ex with | .UnaryOp o x _ => (match o with | .USub => mE Y a x | _ => false) | _ => false
  | .cmp op a b, ex => match ex with | .Compare x os ys _ => (match os, ys with | [o], [y] => cpIs op o && mE Y a x && mE Y b y | _, _ => false) | _ => false
  | .isN a, ex => match ex with | .Compare x os ys _ => (match os, ys with | [.Is], [y] => isNoneC y && mE Y a x | _, _ => false) | _ => false
  | .notN a, ex => match ex with | .Compare x os ys _ => (match os, ys with | [.IsNot], [y] => isNoneC y && mE Y a x | _, _ => false) | _ => false
  | .and es, ex => match ex with | .BoolOp o xs _ => (match o with | .And => mEs Y es xs | _ => false) | _ => false
  | .or es, ex => match ex with | .BoolOp o xs _ => (match o with | .Or => mEs Y es xs | _ => false) | _ => false
  | .not a, ex => match ex with | .UnaryOp o x _ => (match o with | .Not => mE Y a x | _ => false) | _ => false
  | .ite c a b, ex => match ex with | .IfExp t x y _ => mT Y c t && mE Y a x && mE Y b y | _ => false
  | .call f as, ex => match ex with | .Call fn xs ks _ => (match fn, ks with | .Name x _, [] => nthIsO Y.G.fn f x && Y.glo x && xs.all noStar && mEs Y as xs | _, _ => false) | _ => false
  | .new c as, ex => match ex with | .Call fn xs ks _ => (match fn, ks with | .Name x _, [] => (Y.P.clss[c]?).isSome && nthIs Y.G.cl c x && Y.glo x && xs.all noStar && mEs Y as xs | _, _ => false) | _ => false
  | .bcall f as, ex => match ex with | .Call fn xs ks _ => (match fn, ks with | .Name x _, [] => decide (x = biN f) && Y.glo x && !xs.isEmpty && xs.all noStar && mEs Y as xs | _, _ => false) | _ => false
  | .meth m o as, ex => match ex with | .Call fn xs ks p => (match fn, ks with | .Attribute eo x q, [] => nthIs Y.G.at_ m x && baseOk eo && xs.all noStar && Nat.blt xs.length 30 && (q.endLine == p.line) && mE Y o eo && mEs Y as xs | _, _ => false) | _ => false
  | .bmeth f o as, ex => match ex with | .Call fn xs ks p => (match fn, ks with | .Attribute eo x q, [] => decide (x = bmN f) && baseOk eo && xs.all noStar && !xs.isEmpty && Nat.blt xs.length 30 && (q.endLine == p.line) && mE Y o eo && mEs Y as xs | _, _ => false) | _ => false
  | .attr m o, ex => match ex with | .Attribute eo x _ => nthIs Y.G.at_ m x && baseOk eo && mE Y o eo | _ => false
  | .idx o i, ex => match ex with | .Subscript eo ei _ => plainIx ei && mE Y o eo && mE Y i ei | _ => false
  | .tup es, ex => match ex with | .Tuple xs _ _ => xs.all noStar && mEs Y es xs | _ => false
  | .lst _ es, ex => match ex with | .List xs _ => xs.all noStar && mEs Y es xs | _ => false
def mEs (Y : Sc) : List Ex → List Expr → Bool
  | [], xs => match xs with | [] => true | _ => false
  | a :: r, xs => match xs with | x :: xr => mE Y a x && mEs Y r xr | _ => false
def mT (Y : Sc) : Ts → Expr → Bool
  | .val a, ex => match ex with
    | .Compare _ _ _ _ => (match a with | .cmp _ _ _ => true | .isN _ => true | .notN _ => true | _ => false) && mE Y a ex
    | _ => plainTest ex && mE Y a ex
  | .and ts, ex => match ex with | .BoolOp o xs _ => (match o with | .And => mTs Y ts xs | _ => false) | _ => false
  | .or ts, ex => match ex with | .BoolOp o xs _ => (match o with | .Or => mTs Y ts xs | _ => false) | _ => false
  | .not t, ex => match ex with | .UnaryOp o x _ => (match o with | .Not => mT Y t x | _ => false) | _ => false
def mTs (Y : Sc) : List Ts → List Expr → Bool
  | [], xs => match xs with | [] => true | _ => false
  | a :: r, xs => match xs with | x :: xr => mT Y a x && mTs Y r xr | _ => false
end
mutual
def mG (Y : Sc) : TgN → Expr → Bool
  | .name i, ex => match ex with | .Name x _ => Y.isVar i x | _ => false
  | .tup ts, ex => match ex with | .Tuple xs _ _ => xs.all noStar && mGs Y ts xs | _ => false
def mGs (Y : Sc) : List TgN → List Expr → Bool
  | [], xs => match xs with | [] => true | _ => false
  | a :: r, xs => match xs with | x :: xr => mG Y a x && mGs Y r xr | _ => false
end
end MS

set_option maxRecDepth 100000
set_option maxHeartbeats 1000000
/-! UwCheck2: the checker of statements; soundness. -/
namespace MS
open PySem PySem.Spec PyProof.Rows L2
open MI (D SO Store R SR Ex Ts Sm TgN)

def Sc.look (Y : Sc) (x : Str) : Option NameKind := Y.names.lookup x
def noSwap (Y : Sc) (t v : Expr) : Bool := noTup v || (match t, v with
  | .Tuple ts _ _, .Tuple vs _ _ => decide (swapT Y.look ts vs = some none)
  | _, _ => false)
mutual
def mS (Y : Sc) : Sm → Stmt → Bool
  | .no, _ => true
  | .pass, st => match st with | .Pass _ => true | .Expr e _ => (match e with | .Constant c _ _ => (match c with | .str _ => true | _ => false) | _ => false) | _ => false
  | .ret x, st => match st with | .Return (some e) _ => mE Y x e | _ => false
  | .retN, st => match st with | .Return none _ => true | _ => false
  | .expr x, st => match st with | .Expr e _ => noComp e && mE Y x e | _ => false
  | .asg i x, st => match st with | .Assign ts v _ => (match ts with | [.Name nm _] => Y.isVar i nm && noComp v && mE Y x v | _ => false) | _ => false
  | .par i j x y, st => match st with | .Assign ts v _ => (match ts, v with | [.Tuple [.Name n1 p1, .Name n2 p2] _ _], .Tuple [e1, e2] _ _ => Y.isVar i n1 && Y.isVar j n2 && !Nat.beq i j && noStar e1 && noStar e2 && decide (swapT Y.look [.Name n1 p1, .Name n2 p2] [e1, e2] = some (some [n1, n2])) && mE Y x e1 && mE Y y e2 | _, _ => false) | _ => false
  | .par3 i j l x y z, st => match st with | .Assign ts v _ => (match ts, v with | [.Tuple [.Name n1 p1, .Name n2 p2, .Name n3 p3] _ _], .Tuple [e1, e2, e3] _ _ => Y.isVar i n1 && Y.isVar j n2 && Y.isVar l n3 && !Nat.beq i j && !Nat.beq i l && !Nat.beq j l && noStar e1 && noStar e2 && noStar e3 && decide (swapT Y.look [.Name n1 p1, .Name n2 p2, .Name n3 p3] [e1, e2, e3] = some (some [n1, n2, n3])) && mE Y x e1 && mE Y y e2 && mE Y z e3 | _, _ => false) | _ => false
  | .unp g x, st => match st with | .Assign ts v _ => (match ts with | [t] => mG Y g t && noStar t && noComp v && noSwap Y t v && mE Y x v | _ => false) | _ => false
  | .asgS o i x, st => match st with | .Assign ts v _ => (match ts with | [.Subscript eo ei _] => plainIx ei && noComp v && mE Y o eo && mE Y i ei && mE Y x v | _ => false) | _ => false
  | .asgA m o x, st => match st with | .Assign ts v _ => (match ts with | [.Attribute eo nm _] => nthIs Y.G.at_ m nm && noComp v && mE Y o eo && mE Y x v | _ => false) | _ => false
  | .aug i op x, st => match st with | .AugAssign t o e _ => (match t with | .Name nm _ => opIs op o && augOp op && Y.isVar i nm && mE Y x e | _ => false) | _ => false
  | .ifs c a b, st => match st with | .If t xs ys _ => mT Y c t && mSs Y a xs && mSs Y b ys | _ => false
  | .whl c a, st => match st with | .While t xs ys _ => (match ys with | [] => mT Y c t && mSs Y a xs | _ => false) | _ => false
  | .forR i a x, st => match st with | .For t it xs ys _ => (match t, it, ys with | .Name nm _, .Call (.Name r _) [ea] [] _, [] => Y.isVar i nm && decide (r = rngN) && Y.glo r && noStar ea && mE Y a ea && mSs Y x xs | _, _, _ => false) | _ => false
  | .forS g a x, st => match st with | .For t ea xs ys _ => (match ys with | [] => mG Y g t && notSet ea && mE Y a ea && mSs Y x xs | _ => false) | _ => false
  | .brk, st => match st with | .Break _ => true | _ => false
  | .cont, st => match st with | .Continue _ => true | _ => false
def mSs (Y : Sc) : List Sm → List Stmt → Bool
  | [], xs => match xs with | [] => true | _ => false
  | a :: r, xs => match xs with | x :: xr => mS Y a x && mSs Y r xr | _ => false
end

/-- the view and the running body -/
structure YX (Y : Sc) (X : Cx) : Prop where
  N : X.N = Y.N
  names : X.env.scope.names = Y.names
  kind : X.env.blockKind = .function

theorem nth_is {l : List Str} {i : Nat} {x : Str} (h : nthIs l i x = true) : l[i]? = some x := by
  unfold nthIs at h
  split at h
  · rename_i y e; rw [e, of_decide_eq_true h]
  · cases h
theorem nth_isO {l : List (Option Str)} {i : Nat} {x : Str} (h : nthIsO l i x = true) : l[i]? = some (some x) := by
  unfold nthIsO at h
  split at h
  · rename_i y e; rw [e, of_decide_eq_true h]
  · cases h
theorem okN_d {x : Str} (h : okN x = true) : (x == ("__debug__" : Str)) = false ∧ (x == ("__classdict__" : Str)) = false := by
  unfold okN at h
  rw [Bool.and_eq_true] at h
  exact ⟨by simpa using h.1, by simpa using h.2⟩
section
variable {X : Cx} {fa ca : Nat → Addr} {Y : Sc} {b k n : Nat} {W : WX}
theorem YX.glo (y : YX Y X) {x : Str} (h : Y.glo x = true) : Gl X x ∧ (x == ("__debug__" : Str)) = false := by
  unfold Sc.glo at h
  rw [Bool.and_eq_true] at h
  refine ⟨?_, (okN_d h.2).1⟩
  show X.env.scope.names.lookup x = _
  rw [y.names]
  exact beq_iff_eq.mp h.1
theorem YX.isVar (y : YX Y X) {i : Nat} {x : Str} (h : Y.isVar i x = true) : X.N[i]? = some x ∧ X.env.scope.names.lookup x = some .local ∧ (x == ("__debug__" : Str)) = false ∧ (x == ("__classdict__" : Str)) = false := by
  unfold Sc.isVar Sc.loc at h
  rw [Bool.and_eq_true, Bool.and_eq_true] at h
  refine ⟨by rw [y.N]; exact nth_is h.1.1, ?_, okN_d h.2⟩
  rw [y.names]
  exact beq_iff_eq.mp h.1.2
theorem lit_ok {d : D} {c : Const} {j : Nat} {p : Pos} (h : litIs d c = true) : PE X (.Constant c j p) (tE X fa ca Y.P b k W (.lit d)) := by
  cases d <;> cases c <;> first
    | (cases h; done)
    | (rw [of_decide_eq_true (show decide (_ = _) = true from h)]; first | exact e_int | exact e_str)
    | exact e_non
    | (rw [beq_iff_eq.mp (show (_ == _) = true from h)]; exact e_bl)
theorem none_c {e : Expr} (h : isNoneC e = true) : ∃ j p, e = .Constant .none j p := by
  cases e with
  | Constant c j p => cases c <;> first | exact ⟨_, _, rfl⟩ | cases h
  | _ => cases h
theorem t_isN {x : Ex} {ex : Expr} {j : Nat} {pos pos' : Pos} (hx : PE X ex (tE X fa ca Y.P b k W x)) : PT X (.Compare ex [.Is] [.Constant .none j pos'] pos) (tT X fa ca Y.P b k W (.val (.isN x))) := by
  refine ⟨fun pins s σ H Q I ⟨e, μ, loc, a, h⟩ => ?_⟩
  refine wpAny_isTrue_Compare1 (run_E hx I a (post_bind (post_bind h)) (fun _ _ z => z) fun u s1 v H1 d μ1 loc1 I1 r1 a1 st1 rd1 h => ?_) (nobehind _ (by decide) (by decide))
  refine Constant_none (is_none_gen (wpAny_truthy_bool ⟨H1, I1, ?_⟩))
  rw [r1.none_iff, rd_isN rd1]
  exact h H1 loc1 a1.sim st1
theorem t_notN {x : Ex} {ex : Expr} {j : Nat} {pos pos' : Pos} (hx : PE X ex (tE X fa ca Y.P b k W x)) : PT X (.Compare ex [.IsNot] [.Constant .none j pos'] pos) (tT X fa ca Y.P b k W (.val (.notN x))) := by
  refine ⟨fun pins s σ H Q I ⟨e, μ, loc, a, h⟩ => ?_⟩
  refine wpAny_isTrue_Compare1 (run_E hx I a (post_bind (post_bind h)) (fun _ _ z => z) fun u s1 v H1 d μ1 loc1 I1 r1 a1 st1 rd1 h => ?_) (nobehind _ (by decide) (by decide))
  refine Constant_none (isnot_none_gen (wpAny_truthy_bool ⟨H1, I1, ?_⟩))
  rw [r1.none_iff, rd_isN rd1]
  exact h H1 loc1 a1.sim st1
def tyTab : Bool := MI.tyNames.all fun t => (["len", "abs", "max", "min", "int", "bool", "isinstance", "range", "str", "tuple", "list", "dict"].map Str.ofString).contains (Str.ofString t) && (bootBuiltins (Str.ofString t) == some (.type t)) && !decide (Str.ofString t = ("__name__" : Str))
theorem tyTab_ok : tyTab = true := by decide +kernel
theorem ty_free {G : Gn} {P : MI.Prog} (g : Gd X fa ca P G b k n W) {t : String} (h : MI.tyNames.contains t = true) : X.mg (Str.ofString t) = none ∧ bootBuiltins (Str.ofString t) = some (.type t) ∧ Str.ofString t ≠ "__name__" := by
  have h0 := tyTab_ok
  unfold tyTab at h0
  rw [List.all_eq_true] at h0
  have h1 := h0 t (List.contains_iff_mem.mp h)
  rw [Bool.and_eq_true, Bool.and_eq_true] at h1
  exact ⟨g.facts.free _ h1.1.1, beq_iff_eq.mp h1.1.2, by simpa using h1.2⟩
theorem band {a b : Bool} (h : (a && b) = true) : a = true ∧ b = true := Bool.and_eq_true_iff.mp h
mutual
theorem mE_ok (g : Gd X fa ca Y.P Y.G b k n W) (y : YX Y X) : ∀ (ir : Ex) (ex : Expr), mE Y ir ex = true → PE X ex (tE X fa ca Y.P b k W ir)
  | .no, ex, _ => e_no
  | .var i, ex, h => by
    unfold mE at h
    split at h
    · obtain ⟨h1, h2, h3, h4⟩ := y.isVar h; exact e_var h1 (.inl h2) h3 h4
    · cases h
  | .lit d, ex, h => by
    unfold mE at h
    split at h
    · exact lit_ok h
    · cases h
  | .gl i, ex, h => by
    unfold mE at h
    split at h
    · obtain ⟨h1, h2⟩ := band h; obtain ⟨h3, h4⟩ := y.glo h2; exact e_gl g (nth_is h1) h3 h4
    · cases h
  | .fnv i, ex, h => by
    unfold mE at h
    split at h
    · obtain ⟨h1, h2⟩ := band h; obtain ⟨h3, h4⟩ := y.glo h2; exact e_fnv g (nth_isO h1) h3 h4
    · cases h
  | .clv i, ex, h => by
    unfold mE at h
    split at h
    · obtain ⟨h1, h2⟩ := band h; obtain ⟨h3, h4⟩ := y.glo h2; exact e_clv g (nth_is h1) h3 h4
    · cases h
  | .tyv t, ex, h => by
    unfold mE at h
    split at h
    · rename_i x p
      obtain ⟨h1, h2⟩ := band h
      obtain ⟨h3, h4⟩ := y.glo h2
      obtain ⟨h5, h6⟩ := band h1
      have hx := of_decide_eq_true h5
      obtain ⟨hm, hv, hne⟩ := ty_free g h6
      subst hx
      exact e_tyv hm hv h3 hne h4
    · cases h
  | .bin op a c, ex, h => by
    unfold mE at h
    split at h
    · obtain ⟨h1, h2⟩ := band h
      obtain ⟨h3, h4⟩ := band h1
      rw [opIs_ok h3]
      exact e_bin g (mE_ok g y a _ h4) (mE_ok g y c _ h2)
    · cases h
  | .neg a, ex, h => by
    unfold mE at h
    split at h
    · split at h
      · exact e_neg g (mE_ok g y a _ h)
      · cases h
    · cases h
  | .cmp op a c, ex, h => by
    unfold mE at h
    split at h
    · split at h
      · obtain ⟨h1, h2⟩ := band h
        obtain ⟨h3, h4⟩ := band h1
        rw [cpIs_ok h3]
        exact e_cmp g (mE_ok g y a _ h4) (mE_ok g y c _ h2)
      · cases h
    · cases h
  | .isN a, ex, h => by
    unfold mE at h
    split at h
    · split at h
      · obtain ⟨h1, h2⟩ := band h
        obtain ⟨j, p, rfl⟩ := none_c h1
        exact e_isN (mE_ok g y a _ h2)
      · cases h
    · cases h
  | .notN a, ex, h => by
    unfold mE at h
    split at h
    · split at h
      · obtain ⟨h1, h2⟩ := band h
        obtain ⟨j, p, rfl⟩ := none_c h1
        exact e_notN (mE_ok g y a _ h2)
      · cases h
    · cases h
  | .and es, ex, h => by
    unfold mE at h
    split at h
    · split at h
      · exact e_and (mEs_ok g y es _ h)
      · cases h
    · cases h
  | .or es, ex, h => by
    unfold mE at h
    split at h
    · split at h
      · exact e_or (mEs_ok g y es _ h)
      · cases h
    · cases h
  | .not a, ex, h => by
    unfold mE at h
    split at h
    · split at h
      · exact e_not (mE_ok g y a _ h)
      · cases h
    · cases h
  | .ite c a d, ex, h => by
    unfold mE at h
    split at h
    · obtain ⟨h1, h2⟩ := band h
      obtain ⟨h3, h4⟩ := band h1
      exact e_ite (mT_ok g y c _ h3) (mE_ok g y a _ h4) (mE_ok g y d _ h2)
    · cases h
  | .call f as, ex, h => by
    unfold mE at h
    split at h
    · split at h
      · obtain ⟨h, h1⟩ := band h
        obtain ⟨h, h2⟩ := band h
        obtain ⟨h3, h4⟩ := band h
        obtain ⟨h5, h6⟩ := y.glo h4
        have ps := mEs_ok g y as _ h1
        exact e_call g (nth_isO h3) h5 h6 (ps.args h2) (Paired.length ps) h2
      · cases h
    · cases h
  | .new c as, ex, h => by
    unfold mE at h
    split at h
    · split at h
      · obtain ⟨h, h1⟩ := band h
        obtain ⟨h, h2⟩ := band h
        obtain ⟨h3, h4⟩ := band h
        obtain ⟨h3, h7⟩ := band h3
        obtain ⟨h5, h6⟩ := y.glo h4
        obtain ⟨kk, hk⟩ := Option.isSome_iff_exists.mp h3
        have ps := mEs_ok g y as _ h1
        exact e_new g hk (nth_is h7) h5 h6 (ps.args h2) (Paired.length ps) h2
      · cases h
    · cases h
  | .bcall f as, ex, h => by
    unfold mE at h
    split at h
    · split at h
      · obtain ⟨h, h1⟩ := band h
        obtain ⟨h, h2⟩ := band h
        obtain ⟨h, h3⟩ := band h
        obtain ⟨h4, h5⟩ := band h
        obtain ⟨h6, h7⟩ := y.glo h5
        have hx := of_decide_eq_true h4
        subst hx
        exact e_bcall g h6 ((mEs_ok g y as _ h1).args h2) (by simpa using h3) h2
      · cases h
    · cases h
  | .meth m o as, ex, h => by
    unfold mE at h
    split at h
    · split at h
      · obtain ⟨h, h1⟩ := band h
        obtain ⟨h, h2⟩ := band h
        obtain ⟨h, h3⟩ := band h
        obtain ⟨h, h4⟩ := band h
        obtain ⟨h, h5⟩ := band h
        obtain ⟨h6, h7⟩ := band h
        have ps := mEs_ok g y as _ h1
        exact e_meth g (nth_is h6) (mE_ok g y o _ h2) h7 (ps.args h5) (Paired.length ps) h5 (Nat.blt_eq.mp h4) h3
      · cases h
    · cases h
  | .bmeth f o as, ex, h => by
    unfold mE at h
    split at h
    · split at h
      · obtain ⟨h, h1⟩ := band h
        obtain ⟨h, h2⟩ := band h
        obtain ⟨h, h3⟩ := band h
        obtain ⟨h, h4⟩ := band h
        obtain ⟨h, h5⟩ := band h
        obtain ⟨h, h6⟩ := band h
        obtain ⟨h7, h8⟩ := band h
        have hx := of_decide_eq_true h7
        subst hx
        exact e_bmeth g (mE_ok g y o _ h2) h8 ((mEs_ok g y as _ h1).args h6) (by simpa using h5) h6 (Nat.blt_eq.mp h4) h3
      · cases h
    · cases h
  | .attr m o, ex, h => by
    unfold mE at h
    split at h
    · obtain ⟨h, h1⟩ := band h
      obtain ⟨h2, h3⟩ := band h
      exact e_attr g (nth_is h2) (mE_ok g y o _ h1) h3
    · cases h
  | .idx o i, ex, h => by
    unfold mE at h
    split at h
    · obtain ⟨h, h1⟩ := band h
      obtain ⟨h2, h3⟩ := band h
      exact e_idx (mE_ok g y o _ h3) (mE_ok g y i _ h1) h2
    · cases h
  | .tup es, ex, h => by
    unfold mE at h
    split at h
    · obtain ⟨h1, h2⟩ := band h
      exact e_tup ((mEs_ok g y es _ h2).args h1)
    · cases h
  | .lst m es, ex, h => by
    unfold mE at h
    split at h
    · obtain ⟨h1, h2⟩ := band h
      exact e_lst ((mEs_ok g y es _ h2).args h1)
    · cases h
theorem mEs_ok (g : Gd X fa ca Y.P Y.G b k n W) (y : YX Y X) : ∀ (irs : List Ex) (xs : List Expr), mEs Y irs xs = true → PEs X fa ca Y.P b k W irs xs
  | [], xs, h => by
    unfold mEs at h
    split at h
    · exact .nil
    · cases h
  | a :: r, xs, h => by
    unfold mEs at h
    split at h
    · obtain ⟨h1, h2⟩ := band h
      exact .cons (mE_ok g y a _ h1) (mEs_ok g y r _ h2)
    · cases h
theorem mT_ok (g : Gd X fa ca Y.P Y.G b k n W) (y : YX Y X) : ∀ (ir : Ts) (ex : Expr), mT Y ir ex = true → PT X ex (tT X fa ca Y.P b k W ir)
  | .val a, ex, h => by
    unfold mT at h
    split at h
    · obtain ⟨h1, h2⟩ := band h
      cases a with
      | cmp op u v =>
        unfold mE at h2
        dsimp only at h2
        split at h2
        · obtain ⟨h2, h3⟩ := band h2
          obtain ⟨h4, h5⟩ := band h2
          rw [cpIs_ok h4]
          exact t_cmp g (mE_ok g y u _ h5) (mE_ok g y v _ h3)
        · cases h2
      | isN u =>
        unfold mE at h2
        dsimp only at h2
        split at h2
        · obtain ⟨h2, h3⟩ := band h2
          obtain ⟨j, p, rfl⟩ := none_c h2
          exact t_isN (mE_ok g y u _ h3)
        · cases h2
      | notN u =>
        unfold mE at h2
        dsimp only at h2
        split at h2
        · obtain ⟨h2, h3⟩ := band h2
          obtain ⟨j, p, rfl⟩ := none_c h2
          exact t_notN (mE_ok g y u _ h3)
        · cases h2
      | _ => cases h1
    · obtain ⟨h1, h2⟩ := band h
      exact t_val (mE_ok g y a _ h2) (plain_test h1)
  | .and ts, ex, h => by
    unfold mT at h
    split at h
    · split at h
      · exact (tw_and (mTs_ok g y ts _ h)).pt
      · cases h
    · cases h
  | .or ts, ex, h => by
    unfold mT at h
    split at h
    · split at h
      · exact (tw_or (mTs_ok g y ts _ h)).pt
      · cases h
    · cases h
  | .not t, ex, h => by
    unfold mT at h
    split at h
    · split at h
      · exact t_not (mT_ok g y t _ h)
      · cases h
    · cases h
theorem mTs_ok (g : Gd X fa ca Y.P Y.G b k n W) (y : YX Y X) : ∀ (irs : List Ts) (xs : List Expr), mTs Y irs xs = true → PTs X fa ca Y.P b k W irs xs
  | [], xs, h => by
    unfold mTs at h
    split at h
    · exact .nil
    · cases h
  | a :: r, xs, h => by
    unfold mTs at h
    split at h
    · obtain ⟨h1, h2⟩ := band h
      exact .cons (mT_ok g y a _ h1) (mTs_ok g y r _ h2)
    · cases h
end
end
end MS

set_option maxRecDepth 100000
set_option maxHeartbeats 400000
/-! UwBind: binding of positional values and defaults, for every plain def. -/
namespace MS
open PySem PySem.Spec PyProof.Rows L2

theorem zip_lookup : ∀ {ps : List Str} {us : List Value} {n : Str}, n ∈ ps.take us.length → ((ps.zip us).lookup n).isSome = true
  | [], _, _, h => by simp at h
  | p :: ps, [], _, h => by simp at h
  | p :: ps, u :: us, n, h => by
    show (List.lookup n ((p, u) :: ps.zip us)).isSome = true
    rw [List.lookup_cons]
    by_cases e : n = p
    · subst e; simp
    · have e' : (n == p) = false := by simpa using e
      rw [e']
      simp [e] at h
      exact zip_lookup h
theorem zip_none : ∀ {ps : List Str} {us : List Value} {n : Str}, n ∉ ps.take us.length → (ps.zip us).lookup n = none
  | [], _, _, h => by simp
  | p :: ps, [], _, h => by simp
  | p :: ps, u :: us, n, h => by
    show List.lookup n ((p, u) :: ps.zip us) = none
    rw [List.lookup_cons]
    simp at h
    have e' : (n == p) = false := by simpa using h.1
    rw [e']
    exact zip_none h.2
theorem zip_binds : ∀ {ps : List Str} {us : List Value}, ps.Nodup → us.length = ps.length → ps.filterMap (fun n => ((ps.zip us).lookup n).map fun v => (n, v)) = ps.zip us
  | [], us, _, h => by simp
  | p :: ps, [], _, h => by simp at h
  | p :: ps, u :: us, nd, h => by
    have nd' := List.nodup_cons.mp nd
    have ih := zip_binds (ps := ps) (us := us) nd'.2 (by simpa using h)
    show List.filterMap (fun n => (List.lookup n ((p, u) :: ps.zip us)).map fun v => (n, v)) (p :: ps) = (p, u) :: ps.zip us
    rw [List.filterMap_cons]
    simp only [List.lookup_cons, beq_self_eq_true]
    show (p, u) :: _ = _
    congr 1
    refine Eq.trans ?_ ih
    have key : ∀ (l : List Str), (∀ n ∈ l, n ∈ ps) → List.filterMap (fun n => (match (n == p) with | true => some u | false => List.lookup n (ps.zip us)).map fun v => (n, v)) l = List.filterMap (fun n => (List.lookup n (ps.zip us)).map fun v => (n, v)) l := by
      intro l hl
      induction l with
      | nil => rfl
      | cons n r ih2 =>
        have e' : (n == p) = false := by
          have := hl n (by simp)
          simpa using fun z : n = p => nd'.1 (z ▸ this)
        rw [List.filterMap_cons, List.filterMap_cons, ih2 fun m hm => hl m (by simp [hm])]
        rw [e']
    exact key ps fun n h => h
theorem zip_snoc : ∀ {ps : List Str} {us : List Value} {p : Str} {d : Value}, ps[us.length]? = some p → ps.zip us ++ [(p, d)] = ps.zip (us ++ [d])
  | [], us, _, _, h => by simp at h
  | q :: ps, [], p, d, h => by simp at h; subst h; simp
  | q :: ps, u :: us, p, d, h => by
    show (q, u) :: (ps.zip us ++ [(p, d)]) = (q, u) :: ps.zip (us ++ [d])
    rw [zip_snoc (by simpa using h)]

def simpleParams (p : Arguments) : Bool := p.posonlyargs.isEmpty && p.kwonlyargs.isEmpty && p.vararg.isNone && p.kwarg.isNone
theorem bind_loop {ps : List Str} (nd : ps.Nodup) : ∀ (its : List Value) (i : Nat) (us : List Value), i + its.length = ps.length → i ≤ us.length → us.length ≤ ps.length →
    (forIn ((ps.drop i).zip its) (ps.zip us) (fun (x : Str × Value) (r : List (Str × Value)) =>
      (if (List.lookup x.fst r).isNone = true then pure (ForInStep.yield (r ++ [(x.fst, x.snd)])) else pure (ForInStep.yield r) : Sem (ForInStep (List (Str × Value)))))) = (pure (ps.zip (us ++ its.drop (us.length - i))) : Sem (List (Str × Value)))
  | [], i, us, h, h1, h2 => by
    simp
  | d :: its, i, us, h, h1, h2 => by
    have hi : i < ps.length := by simp at h; omega
    rw [List.drop_eq_getElem_cons hi, List.zip_cons_cons, List.forIn_cons]
    dsimp only
    by_cases hc : i < us.length
    · have e1 : ((ps.zip us).lookup ps[i]).isNone = false := by
        have := zip_lookup (ps := ps) (us := us) (n := ps[i]) (by
          rw [List.mem_iff_getElem]
          exact ⟨i, by simp; omega, by simp⟩)
        cases q : (ps.zip us).lookup ps[i] with
        | none => rw [q] at this; cases this
        | some _ => rfl
      rw [e1]
      have ih := bind_loop nd its (i + 1) us (by simp at h; omega) hc h2
      have e2 : us.length - i = (us.length - (i + 1)) + 1 := by omega
      rw [e2, List.drop_succ_cons, ← ih]
      rfl
    · have hiu : i = us.length := by omega
      have e1 : ((ps.zip us).lookup ps[i]) = none := by
        refine zip_none fun z => ?_
        obtain ⟨j, hj, e⟩ := List.mem_iff_getElem.mp z
        simp at hj e
        have := nodup_ix nd (i := j) (j := i) (x := ps[i]) (by rw [List.getElem?_eq_getElem (by omega), e]) (List.getElem?_eq_getElem hi)
        omega
      rw [e1]
      have e3 : ps.zip us ++ [(ps[i], d)] = ps.zip (us ++ [d]) := zip_snoc (by subst hiu; simp [hi])
      rw [e3]
      have ih := bind_loop nd its (i + 1) (us ++ [d]) (by simp at h; omega) (by simp; omega) (by simp; omega)
      have e4 : us ++ List.drop (us.length - i) (d :: its) = us ++ [d] ++ List.drop ((us ++ [d]).length - (i + 1)) its := by
        have z1 : us.length - i = 0 := by omega
        have z2 : (us ++ [d]).length - (i + 1) = 0 := by simp; omega
        rw [z1, z2]
        simp
      rw [e4, ← ih]
      rfl
theorem bind_gen {fd : FuncData} {ps : List Str} {us its : List Value} (h1 : fd.params.posonlyargs = []) (h2 : fd.params.kwonlyargs = []) (h3 : fd.params.vararg = none) (h4 : fd.params.kwarg = none) (h5 : fd.params.args.map (·.arg) = ps) (nd : ps.Nodup)
    (l1 : us.length ≤ ps.length) (l2 : its.length ≤ ps.length) (l3 : ps.length - us.length ≤ its.length) :
    ∃ k, bindArgs fd ⟨us, []⟩ = seqItems? fd.defaults >>= k ∧ ∀ o : Option (Array Value), (o.getD #[]).toList = its → k o = pure (ps.zip (us ++ its.drop (its.length - (ps.length - us.length)))) := by
  refine ⟨_, by unfold bindArgs; exact rfl, fun o ho => ?_⟩
  simp only [h1, h2, h3, h4, h5, List.map_nil, List.nil_append, List.append_nil]
  rw [if_neg (by simp; omega)]
  simp only [ho]
  have z0 : its.length - ps.length = 0 := by omega
  rw [z0, List.drop_zero]
  rw [if_neg (by
    rw [Bool.not_eq_true, Bool.not_eq_false', List.isEmpty_iff, List.filter_eq_nil_iff]
    intro n hn
    have hm : n ∈ ps.take us.length := by
      obtain ⟨j, hj, e⟩ := List.mem_iff_getElem.mp hn
      simp at hj e
      exact List.mem_iff_getElem.mpr ⟨j, by simp; omega, by simpa using e⟩
    have := zip_lookup (us := us) hm
    cases q : (ps.zip us).lookup n with
    | none => rw [q] at this; cases this
    | some _ => simp)]
  rw [bind_loop nd its (ps.length - its.length) us (by omega) (by omega) l1]
  have e5 : us.length - (ps.length - its.length) = its.length - (ps.length - us.length) := by omega
  rw [e5]
  have e6 := zip_binds (ps := ps) (us := us ++ its.drop (its.length - (ps.length - us.length))) nd (by simp; omega)
  show (pure (List.filterMap (fun n => Option.map (fun x => (n, x)) (List.lookup n (ps.zip (us ++ its.drop (its.length - (ps.length - us.length)))))) ps) : Sem _) = _
  rw [e6]
end MS

set_option maxRecDepth 100000
set_option maxHeartbeats 1000000
/-! UwDef: statements; defs keep what the interpreter tells. -/
namespace MS
open PySem PySem.Spec PyProof.Rows L2
open MI (D SO Store R SR Ex Ts Sm TgN)

section
variable {X : Cx} {fa ca : Nat → Addr} {Y : Sc} {b k n : Nat} {W : WX}
mutual
theorem mG_ok (g : Gd X fa ca Y.P Y.G b k n W) (y : YX Y X) : ∀ (t : TgN) (ex : Expr), mG Y t ex = true → PG X ex (gT X fa ca b t)
  | .name i, ex, h => by
    unfold mG at h
    split at h
    · obtain ⟨h1, h2, h3, h4⟩ := y.isVar h; exact g_name g h1 h2
    · cases h
  | .tup ts, ex, h => by
    unfold mG at h
    split at h
    · obtain ⟨h1, h2⟩ := band h
      obtain ⟨h3, h4⟩ := mGs_ok g y ts _ h1 h2
      exact g_tup g h3 h4 h1
    · cases h
theorem mGs_ok (g : Gd X fa ca Y.P Y.G b k n W) (y : YX Y X) : ∀ (ts : List TgN) (xs : List Expr), xs.all noStar = true → mGs Y ts xs = true → PGs X xs (gTs X fa ca b ts) ∧ ts.length = xs.length
  | [], xs, _, h => by
    unfold mGs at h
    split at h
    · exact ⟨gs_nil, rfl⟩
    · cases h
  | a :: r, xs, hs, h => by
    unfold mGs at h
    split at h
    · obtain ⟨h1, h2⟩ := band h
      rw [List.all_cons] at hs
      obtain ⟨h3, h4⟩ := band hs
      obtain ⟨h5, h6⟩ := mGs_ok g y r _ h4 h2
      exact ⟨gs_cons (mG_ok g y a _ h1) h5 h3, congrArg Nat.succ h6⟩
    · cases h
end
theorem nbeq {i j : Nat} (h : (!Nat.beq i j) = true) : i ≠ j := fun z => by
  subst z; rw [Nat.beq_refl] at h; cases h
theorem YX.look (y : YX Y X) : Y.look = X.env.kindOf := by
  funext x
  show Y.names.lookup x = X.env.scope.names.lookup x
  rw [y.names]
theorem noSwap_ok (y : YX Y X) {t v : Expr} (h : noSwap Y t v = true) : swappedStores [t] v X.env = pure none := by
  unfold noSwap at h
  rcases Bool.or_eq_true_iff.mp h with h | h
  · exact no_stores h
  · split at h
    · have := of_decide_eq_true h
      rw [y.look] at this
      exact swapT_ok y.kind this
    · cases h
theorem str_c {c : Const} (h : (match c with | .str _ => true | _ => false) = true) : ∃ x, c = .str x := by
  cases c <;> first | exact ⟨_, rfl⟩ | cases h
mutual
theorem mS_ok (g : Gd X fa ca Y.P Y.G b k n W) (y : YX Y X) : ∀ (ir : Sm) (st : Stmt), mS Y ir st = true → PS X st (tS X fa ca Y.P b k W ir)
  | .no, st, _ => s_no
  | .pass, st, h => by
    unfold mS at h
    split at h
    · exact s_pass
    · split at h
      · obtain ⟨x, rfl⟩ := str_c h
        exact s_doc
      · cases h
    · cases h
  | .ret x, st, h => by
    unfold mS at h
    split at h
    · exact s_ret (mE_ok g y x _ h)
    · cases h
  | .retN, st, h => by
    unfold mS at h
    split at h
    · exact s_retN
    · cases h
  | .expr x, st, h => by
    unfold mS at h
    split at h
    · obtain ⟨h1, h2⟩ := band h
      exact s_expr (mE_ok g y x _ h2) h1
    · cases h
  | .asg i x, st, h => by
    unfold mS at h
    split at h
    · split at h
      · obtain ⟨h, h1⟩ := band h
        obtain ⟨h2, h3⟩ := band h
        obtain ⟨h4, h5, _, _⟩ := y.isVar h2
        exact s_asg g h4 h5 (mE_ok g y x _ h1) h3
      · cases h
    · cases h
  | .par i j x z, st, h => by
    unfold mS at h
    split at h
    · split at h
      · obtain ⟨h, h1⟩ := band h
        obtain ⟨h, h2⟩ := band h
        obtain ⟨h, h3⟩ := band h
        obtain ⟨h, h4⟩ := band h
        obtain ⟨h, h5⟩ := band h
        obtain ⟨h, h6⟩ := band h
        obtain ⟨h7, h8⟩ := band h
        obtain ⟨a1, a2, _, _⟩ := y.isVar h7
        obtain ⟨b1, b2, _, _⟩ := y.isVar h8
        refine s_par g a1 b1 (nbeq h6) a2 b2 (mE_ok g y x _ h2) (mE_ok g y z _ h1) (by simp [h4, h5]) (swapT_ok y.kind ?_)
        rw [← y.look]; exact of_decide_eq_true h3
      · cases h
    · cases h
  | .par3 i j l x z w, st, h => by
    unfold mS at h
    split at h
    · split at h
      · obtain ⟨h, h1⟩ := band h
        obtain ⟨h, h2⟩ := band h
        obtain ⟨h, h3⟩ := band h
        obtain ⟨h, h4⟩ := band h
        obtain ⟨h, h5⟩ := band h
        obtain ⟨h, h6⟩ := band h
        obtain ⟨h, h7⟩ := band h
        obtain ⟨h, h8⟩ := band h
        obtain ⟨h, h9⟩ := band h
        obtain ⟨h, h10⟩ := band h
        obtain ⟨h, h11⟩ := band h
        obtain ⟨h12, h13⟩ := band h
        obtain ⟨a1, a2, _, _⟩ := y.isVar h12
        obtain ⟨b1, b2, _, _⟩ := y.isVar h13
        obtain ⟨c1, c2, _, _⟩ := y.isVar h11
        refine s_par3 g a1 b1 c1 (nbeq h10) (nbeq h9) (nbeq h8) a2 b2 c2 (mE_ok g y x _ h3) (mE_ok g y z _ h2) (mE_ok g y w _ h1) (by simp [h5, h6, h7]) (swapT_ok y.kind ?_)
        rw [← y.look]; exact of_decide_eq_true h4
      · cases h
    · cases h
  | .unp t x, st, h => by
    unfold mS at h
    split at h
    · split at h
      · obtain ⟨h, h1⟩ := band h
        obtain ⟨h, h2⟩ := band h
        obtain ⟨h, h3⟩ := band h
        obtain ⟨h4, h5⟩ := band h
        exact s_unp (mG_ok g y t _ h4) (mE_ok g y x _ h1) h3 (noSwap_ok y h2) h5
      · cases h
    · cases h
  | .asgS o i x, st, h => by
    unfold mS at h
    split at h
    · split at h
      · obtain ⟨h, h1⟩ := band h
        obtain ⟨h, h2⟩ := band h
        obtain ⟨h, h3⟩ := band h
        obtain ⟨h4, h5⟩ := band h
        exact s_asgS g (mE_ok g y o _ h3) (mE_ok g y i _ h2) (mE_ok g y x _ h1) h5 h4
      · cases h
    · cases h
  | .asgA m o x, st, h => by
    unfold mS at h
    split at h
    · split at h
      · obtain ⟨h, h1⟩ := band h
        obtain ⟨h, h2⟩ := band h
        obtain ⟨h4, h5⟩ := band h
        exact s_asgA g (nth_is h4) (mE_ok g y o _ h2) (mE_ok g y x _ h1) h5
      · cases h
    · cases h
  | .aug i op x, st, h => by
    unfold mS at h
    split at h
    · split at h
      · obtain ⟨h, h1⟩ := band h
        obtain ⟨h, h2⟩ := band h
        obtain ⟨h4, h5⟩ := band h
        obtain ⟨a1, a2, _, _⟩ := y.isVar h2
        rw [opIs_ok h4]
        exact s_aug h5 g a1 a2 (mE_ok g y x _ h1)
      · cases h
    · cases h
  | .ifs c u v, st, h => by
    unfold mS at h
    split at h
    · obtain ⟨h, h1⟩ := band h
      obtain ⟨h2, h3⟩ := band h
      exact s_ifs (mT_ok g y c _ h2) (mSs_ok g y u _ h3) (mSs_ok g y v _ h1)
    · cases h
  | .whl c u, st, h => by
    unfold mS at h
    split at h
    · split at h
      · obtain ⟨h1, h2⟩ := band h
        exact s_whl g (mT_ok g y c _ h1) (mSs_ok g y u _ h2)
      · cases h
    · cases h
  | .forR i a u, st, h => by
    unfold mS at h
    split at h
    · split at h
      · obtain ⟨h, h1⟩ := band h
        obtain ⟨h, h2⟩ := band h
        obtain ⟨h, h3⟩ := band h
        obtain ⟨h, h4⟩ := band h
        obtain ⟨h5, h6⟩ := band h
        obtain ⟨a1, a2, _, _⟩ := y.isVar h5
        have hr := of_decide_eq_true h6
        subst hr
        exact s_forR g a1 a2 (y.glo h4).1 (mE_ok g y a _ h2) h3 (mSs_ok g y u _ h1)
      · cases h
    · cases h
  | .forS t a u, st, h => by
    unfold mS at h
    split at h
    · split at h
      · obtain ⟨h, h1⟩ := band h
        obtain ⟨h, h2⟩ := band h
        obtain ⟨h3, h4⟩ := band h
        exact s_forS g (mG_ok g y t _ h3) (mE_ok g y a _ h2) (mSs_ok g y u _ h1) h4
      · cases h
    · cases h
  | .brk, st, h => by
    unfold mS at h
    split at h
    · exact s_brk
    · cases h
  | .cont, st, h => by
    unfold mS at h
    split at h
    · exact s_cont
    · cases h
theorem mSs_ok (g : Gd X fa ca Y.P Y.G b k n W) (y : YX Y X) : ∀ (irs : List Sm) (xs : List Stmt), mSs Y irs xs = true → PSs X xs (tSS X fa ca Y.P b k W irs)
  | [], xs, h => by
    unfold mSs at h
    split at h
    · exact ss_nil
    · cases h
  | a :: r, xs, h => by
    unfold mSs at h
    split at h
    · obtain ⟨h1, h2⟩ := band h
      exact ss_cons (mS_ok g y a _ h1) (mSs_ok g y r _ h2)
    · cases h
end
end

/-- what the written part tells of a def -/
def DefF (K : PySem.W.Frag) (fa ca : Nat → Addr) (P : MI.Prog) (G : Gn) (f : Nat) (d : MI.Def) : Prop :=
  ∃ (x qual : Str) (params : Arguments) (body : List Stmt) (scope : Scope) (dvs : List V) (kws : List (Str × V)) (fd : FuncData) (N ps : List Str),
    FunD K x qual params body scope dvs kws (fa f) fd ∧ FnScope N ps scope ∧ simpleParams params = true ∧ params.args.map (·.arg) = ps ∧ d.np = ps.length ∧ d.ns = N.length ∧ dvs.length ≤ ps.length ∧
    (∀ loc Z H, RDs ⟨K, fa, ca⟩ loc Z H d.dfl dvs) ∧ mSs ⟨scope.names, N, G, P⟩ d.body body = true

theorem rds_map {A : Ad} {loc : Loc} {Z : Addr → Prop} {H : Hp} : ∀ {ds : List D} {vs : List V}, RDs A loc Z H ds vs → ∀ (m m' : Nat), m = m' → ER A loc Z H (ds.map some ++ List.replicate m none) (vs.map some ++ List.replicate m' none)
  | ds, vs, r, m, _, rfl => by
    have hl := r.length
    refine ⟨by simp [hl], fun i d h => ?_⟩
    by_cases hi : i < ds.length
    · rw [List.getElem?_append_left (by simpa using hi)] at h
      rw [List.getElem?_append_left (by simp; omega)]
      rw [List.getElem?_map] at h ⊢
      cases hd : ds[i]? with
      | none => rw [hd] at h; cases h
      | some d' =>
        rw [hd] at h
        cases (Option.some.inj (Option.some.inj h))
        obtain ⟨v, h1, h2⟩ := r.get hd
        exact ⟨v, by rw [h1]; rfl, h2⟩
    · rw [List.getElem?_append_right (by simpa using hi)] at h
      have := List.getElem?_eq_some_iff.mp h
      obtain ⟨_, h2⟩ := this
      simp at h2
theorem binds_of {K : PySem.W.Frag} {x qual : Str} {params : Arguments} {body : List Stmt} {scope : Scope} {dvs : List V} {kws : List (Str × V)} {f : Addr} {fd : FuncData} {ps : List Str} (F : FunD K x qual params body scope dvs kws f fd) (hp : simpleParams params = true)
    (hps : params.args.map (·.arg) = ps) (nd : ps.Nodup) (l2 : dvs.length ≤ ps.length) (s : Shared) (us : List Value) (X : K.In s.heap) (l1 : us.length ≤ ps.length) (l3 : ps.length - us.length ≤ dvs.length) :
    ∃ ts : List Value, Vals (dvs.drop (dvs.length - (ps.length - us.length))) ts ∧ BindsTo s fd ⟨us, []⟩ (ps.zip (us ++ ts)) := by
  obtain ⟨oc, od, dV, kV, doc, pm, an, cdv, ct, osl, rfl, lk, hcd, hD, hK⟩ := F.ex
  unfold simpleParams at hp
  obtain ⟨hp, p1⟩ := band hp
  obtain ⟨hp, p2⟩ := band hp
  obtain ⟨p3, p4⟩ := band hp
  rcases hD with ⟨e, hv⟩ | ⟨_, T, o, its, m, hv, lT, oT, rT⟩
  · subst e hv
    obtain ⟨k, e1, e2⟩ := bind_gen (fd := PySem.W.fnOf x qual params body scope .none kV doc pm an cdv ct) (ps := ps) (us := us) (its := []) (by simpa [PySem.W.fnOf] using p3) (by simpa [PySem.W.fnOf] using p4) (by simpa [PySem.W.fnOf] using p2) (by simpa [PySem.W.fnOf] using p1) hps nd l1 (by simp) (by simpa using l3)
    refine ⟨[], by simp; exact .nil, .of_eq ?_⟩
    rw [e1]
    have := e2 none rfl
    simp only [List.drop_nil] at this
    exact this
  · subst hv
    have hl := rT.length
    obtain ⟨k, e1, e2⟩ := bind_gen (fd := PySem.W.fnOf x qual params body scope (.ref T) kV doc pm an cdv ct) (ps := ps) (us := us) (its := its) (by simpa [PySem.W.fnOf] using p3) (by simpa [PySem.W.fnOf] using p4) (by simpa [PySem.W.fnOf] using p2) (by simpa [PySem.W.fnOf] using p1) hps nd l1 (by omega) (by omega)
    refine ⟨_, rT.drop _, BindsTo.of_looks fun M => ?_⟩
    rw [e1]
    have h2 := e2 (some its.toArray) rfl
    rw [← hl] at h2
    exact looks_items X lT oT (.of_pure h2)
end MS

set_option maxRecDepth 100000
set_option maxHeartbeats 1000000
/-! UwFns: every def keeps what the interpreter's call tells, at every depth. -/
namespace MS
open PySem PySem.Spec PyProof.Rows L2
open MI (D SO Store R SR Ex Ts Sm TgN)

theorem post_done {p : Bool} {μ : Store} {v : D} {μ' : Store} {okP : D → Store → Prop} {exP : D → Store → Prop} (h : post (MI.done p μ v μ') okP exP) : (p = true ∧ D.lt μ.length v = true ∧ okP v μ) ∨ okP v μ' := by
  unfold MI.done at h
  split at h
  · rename_i c
    rw [Bool.and_eq_true] at c
    exact .inl ⟨c.1, c.2, h⟩
  · exact .inr h
theorem post_doneX {p : Bool} {μ : Store} {v : D} {μ' : Store} {okP : D → Store → Prop} {exP : D → Store → Prop} (h : post (MI.doneX p μ v μ') okP exP) : (p = true ∧ D.lt μ.length v = true ∧ exP v μ) ∨ exP v μ' := by
  unfold MI.doneX at h
  split at h
  · rename_i c
    rw [Bool.and_eq_true] at c
    exact .inl ⟨c.1, c.2, h⟩
  · exact .inr h
theorem bif_le {p : Bool} {m b : Nat} (h : b ≤ m) : b ≤ bif p then m else b := by cases p <;> simp [h]
theorem bif_le' {p : Bool} {m b : Nat} (h : b ≤ m) : (bif p then m else b) ≤ m := by cases p <;> simp [h]
/-- what a body's run leaves for its caller -/
theorem leave {A : Ad} {p : Bool} {b : Nat} {μ μ1 : Store} {loc loc' : Loc} {H H' : Hp} {d : D} {v : V} {okP : D → Store → Prop} (S : Sim A μ loc H) (hb : b ≤ μ.length)
    (h : (p = true ∧ D.lt μ.length d = true ∧ okP d μ) ∨ okP d μ1) (S' : Sim A μ1 loc' H') (st : Stp (bif p then μ.length else b) μ loc H μ1 loc' H') (r : RDat A μ1 loc' H' d v) :
    ∃ μ2 loc2, okP d μ2 ∧ Sim A μ2 loc2 H' ∧ Stp b μ loc H μ2 loc2 H' ∧ RDat A μ2 loc2 H' d v := by
  rcases h with ⟨hp, hl, ok⟩ | ok
  · subst hp
    obtain ⟨S2, st2, ll, hz⟩ := cut hb S st S'
    exact ⟨μ, loc, ok, S2, st2, lt_ok ll hz r hl⟩
  · exact ⟨μ1, loc', ok, S', st.mono (bif_le hb), r⟩

section
variable {prog : Program} {w : World} {K : PySem.W.Frag} {mg : Str → Option Value} {base : Heap} {fa ca : Nat → Addr} {P : MI.Prog} {G : Gn}
/-- a def's body run on all its parameters' values -/
theorem body_ok (Fc : Facts K mg fa ca P G) {k b : Nat} {d : MI.Def} (IH : ∀ b f, FnR prog w K mg base (L2.CX prog w) (4 * k) (fa f) (spF ⟨K, fa, ca⟩ P k b f)) {body : List Stmt} {scope : Scope} {N ps : List Str} (FS : FnScope N ps scope)
    (hnp : d.np = ps.length) (hns : d.ns = N.length) (hm : mSs ⟨scope.names, N, G, P⟩ d.body body = true) {qual : Str} {ad : Addr} {cdv : Value} {A' : Around} {outer' : List Env} {s' : Shared} {H : Hp} {vs : List V} {ds : List D} {Q : VK} {E : XK} {μ : Store} {loc : Loc}
    (hroom : Room (4 * k + 3) (A'.deeper (envOfC qual scope s'.heap.objs.size ad cdv))) (S : Sim ⟨K, fa, ca⟩ μ loc H) (hb : b ≤ μ.length) (rd : RDsat ⟨K, fa, ca⟩ μ loc H ds vs) (hl : vs.length = ps.length)
    (hp : post (match MI.exL P (MI.callN P k) (bif d.pure then μ.length else b) d.body (ds.map some ++ List.replicate (d.ns - d.np) none) μ with
        | .rt v μ1 => MI.done d.pure μ v μ1
        | .nx _ μ1 => MI.done d.pure μ .non μ1
        | .ex x _ μ1 => MI.doneX d.pure μ x μ1
        | _ => .no) (fun d μ' => ∀ v H' loc', Sim ⟨K, fa, ca⟩ μ' loc' H' → Stp b μ loc H μ' loc' H' → RDat ⟨K, fa, ca⟩ μ' loc' H' d v → Q v H') (ExW ⟨K, fa, ca⟩ b μ loc H E)) :
    ∃ t, PSs (cxOf (L2.CX prog w) prog w K mg base N qual scope ad cdv A' outer' s' H E) body t ∧ t { nx := fun _ H' => Q .non H', rt := Q } (start N vs) H := by
  have hbb : (bif d.pure then μ.length else b) ≤ μ.length := bif_le' hb
  have g : Gd (cxOf (L2.CX prog w) prog w K mg base N qual scope ad cdv A' outer' s' H E) fa ca P G (bif d.pure then μ.length else b) k (4 * k) (fun cls d _ H => E cls d H) :=
    ⟨rfl, FS.nd, hroom, takes_of rfl rfl rfl rfl, passes_of rfl, Fc, IH⟩
  have y : YX ⟨scope.names, N, G, P⟩ (cxOf (L2.CX prog w) prog w K mg base N qual scope ad cdv A' outer' s' H E) := ⟨rfl, rfl, by
    show (if scope.kind.isAnnotationScope then ScopeKind.function else scope.kind) = .function
    rw [FS.kind]; rfl⟩
  refine ⟨_, mSs_ok (Y := ⟨scope.names, N, G, P⟩) g y d.body body hm, ?_⟩
  have er : ER ⟨K, fa, ca⟩ loc (Own μ loc 0) H (ds.map some ++ List.replicate (d.ns - d.np) none) (start N vs) := rds_map rd _ _ (by rw [hl, hns, hnp])
  refine ⟨_, μ, loc, ⟨S, er, hbb⟩, ?_⟩
  show postS _ _ _ _ _ _ _ (MI.exL P (MI.callN P k) (bif d.pure then μ.length else b) d.body _ μ)
  cases hq : MI.exL P (MI.callN P k) (bif d.pure then μ.length else b) d.body (ds.map some ++ List.replicate (d.ns - d.np) none) μ with
  | nx e1 μ1 =>
    rw [hq] at hp
    intro σ' H1 loc1 S1 st1 er1
    obtain ⟨μ2, loc2, ok, S2, st2, r2⟩ := leave (v := .non) S hb (post_done hp) S1 st1 .non
    exact ok _ _ _ S2 st2 r2
  | rt v μ1 =>
    rw [hq] at hp
    intro v' H1 loc1 S1 st1 r1
    obtain ⟨μ2, loc2, ok, S2, st2, r2⟩ := leave S hb (post_done hp) S1 st1 r1
    exact ok _ _ _ S2 st2 r2
  | ex z e1 μ1 => exact fun σ' H1 loc1 cls dd S1 st1 er1 rx => by cases rx
  | bk e1 μ1 => rw [hq] at hp; exact hp.elim
  | ct e1 μ1 => rw [hq] at hp; exact hp.elim
  | no => rw [hq] at hp; exact hp.elim
theorem fns (Fc : Facts K mg fa ca P G) (Df : ∀ f d, P.defs[f]? = some d → DefF K fa ca P G f d) : ∀ (k b f : Nat), FnR prog w K mg base (L2.CX prog w) (4 * k) (fa f) (spF ⟨K, fa, ca⟩ P k b f)
  | 0, b, f => fun A outer s H us vs Q E hr e0 r ⟨ds, μ, loc, S, hb, rd, hp⟩ => hp.elim
  | k + 1, b, f => fun A outer s H us vs Q E hr e0 r ⟨ds, μ, loc, S, hb, rd, hp⟩ => by
    unfold MI.callN at hp
    cases hd : P.defs[f]? with
    | none => rw [hd] at hp; exact hp.elim
    | some d =>
      rw [hd] at hp
      dsimp only at hp
      cases hf : MI.fill d ds with
      | none => rw [hf] at hp; exact hp.elim
      | some ds' =>
        rw [hf] at hp
        dsimp only at hp
        obtain ⟨x, qual, params, body, scope, dvs, kws, fd, N, ps, FD, FS, hsp, hps, hnp, hns, hdl, hdf, hm⟩ := Df f d hd
        unfold MI.fill at hf
        split at hf
        · rename_i hz
          rw [Bool.and_eq_true] at hz
          have z1 := Nat.le_of_ble_eq_true hz.1
          have z2 := Nat.le_of_ble_eq_true hz.2
          cases (Option.some.inj hf)
          have hlen := rd.length
          have hul := r.length
          have hdv := (hdf loc (Own μ loc 0) H).length
          have nd : ps.Nodup := by
            have := FS.nd
            have hp := FS.pre
            rw [← hp]
            exact List.Nodup.sublist (List.take_sublist _ _) this
          obtain ⟨ts, rts, bt⟩ := binds_of FD hsp hps nd hdl s us (e0.mod.kin.keeps fun b o e => (e0.bs b o e).1) (by omega) (by omega)
          have rfull : Vals (vs ++ dvs.drop (dvs.length - (ps.length - us.length))) (us ++ ts) := r.append rts
          have rdfull : RDsat ⟨K, fa, ca⟩ μ loc H (ds ++ d.dfl.drop (d.dfl.length - (d.np - ds.length))) (vs ++ dvs.drop (dvs.length - (ps.length - us.length))) := by
            have e1 : d.dfl.length - (d.np - ds.length) = dvs.length - (ps.length - us.length) := by rw [hdv, hnp, hlen, hul]
            rw [e1]
            exact rd.append ((hdf loc (Own μ loc 0) H).drop _)
          have lfull : (vs ++ dvs.drop (dvs.length - (ps.length - us.length))).length = ps.length := by
            rw [List.length_append, List.length_drop]; omega
          refine (FunD.ok (P := prog) (w := w) (K := K) (mg := mg) (base := base) (CX := L2.CX prog w) (k := 4 * k + 3) (sp := fun vs' H' Q' E' => vs' = vs ++ dvs.drop (dvs.length - (ps.length - us.length)) ∧ H' = H ∧ Q' = Q ∧ E' = E) FD FS (fun vs' H' Q' E' q => by rw [q.1]; exact lfull) fun cdv A' outer' s' H' vs' Q' E' hroom q => ?_).run A outer s H ⟨us, []⟩ (us ++ ts) _ Q E (hr.mono (by omega)) e0 bt rfull ⟨rfl, rfl, rfl, rfl⟩
          obtain ⟨rfl, rfl, rfl, rfl⟩ := q
          exact body_ok Fc (fun b f => fns Fc Df k b f) FS hnp hns hm hroom S hb rdfull lfull hp
        · cases hf

/-- an exception of a call, whatever the world -/
def CXA : CXT := fun outer H s E u s' => ∃ (P : Program) (w : World), L2.CX P w outer H s E u s'
/-- the law's def: what the interpreter tells of it -/
theorem law_ok (Fc : Facts K mg fa ca P G) (Df : ∀ f d, P.defs[f]? = some d → DefF K fa ca P G f d) {k f n : Nat} {d : MI.Def} {x qual lx : Str} {params : Arguments} {body : List Stmt} {scope : Scope} {fd : FuncData} {N : List Str} (hd : P.defs[f]? = some d)
    (FD : FunD K x qual params body scope [] [] (fa f) fd) (FS : FnScope N [lx] scope) (hnp : d.np = 1) (hns : d.ns = N.length) (hdf : d.dfl = []) (hm : mSs ⟨scope.names, N, G, P⟩ d.body body = true)
    (plain : ∀ ns : List Int, ns.length ≤ n → ∃ μ, MI.callN P (k + 1) 0 f [.lst (ns.map D.int)] [] = .ok (.bl true) μ) :
    FnOk prog w K mg base CXA (4 * k + 4) (fa f) fd [lx] (fun vs H Q E => ∃ (a : Addr) (ns : List Int), vs = [.ref a] ∧ ns.length ≤ n ∧ SqL K H a (ns.map V.int) ∧ ∀ H', Q (.bl true) H') := by
  have main : FnOk prog w K mg base (L2.CX prog w) (4 * k + 4) (fa f) fd [lx] (fun vs H Q E => ∃ (a : Addr) (ns : List Int), vs = [.ref a] ∧ ns.length ≤ n ∧ SqL K H a (ns.map V.int) ∧ ∀ H', Q (.bl true) H') := by
    refine FunD.ok (k := 4 * k + 3) FD FS (fun vs H Q E ⟨a, ns, e, _⟩ => by rw [e]; rfl) fun cdv A' outer' s' H vs Q E hroom ⟨a, ns, e, hn, hs, hq⟩ => ?_
    subst e
    obtain ⟨μ', hc⟩ := plain ns hn
    have rIs : ∀ ns : List Int, RDs ⟨K, fa, ca⟩ [] (Own [] [] 0) H (ns.map D.int) (ns.map V.int) := fun ns => by
      induction ns with
      | nil => exact .nil
      | cons i r ih => exact .cons (.int i) ih
    have no : ¬ Own ([] : Store) [] 0 a := fun ⟨i, so, p, _, e, _⟩ => by simp at e
    have rl : RDat ⟨K, fa, ca⟩ [] [] H (.lst (ns.map D.int)) (.ref a) := by
      rcases hs with hs | hs
      · exact .lstH hs no (rIs ns)
      · exact .lstK hs (rIs ns)
    refine body_ok (d := d) (ds := [.lst (ns.map D.int)]) (b := 0) (μ := []) (loc := []) Fc (fun b f => fns Fc Df k b f) FS hnp hns hm hroom ⟨rfl, fun i j so so' p p' x _ e => by simp at e, fun i so p e => by simp at e⟩ (Nat.le_refl _) (.cons rl .nil) rfl ?_
    unfold MI.callN at hc
    rw [hd] at hc
    have hf : MI.fill d [.lst (ns.map D.int)] = some [.lst (ns.map D.int)] := by
      unfold MI.fill
      rw [hnp, hdf]
      rfl
    dsimp only at hc
    rw [hf] at hc
    dsimp only at hc
    have go : ∀ r : R D, r = .ok (.bl true) μ' → post r (fun d μ' => ∀ v H' loc', Sim ⟨K, fa, ca⟩ μ' loc' H' → Stp 0 [] [] H μ' loc' H' → RDat ⟨K, fa, ca⟩ μ' loc' H' d v → Q v H') (ExW ⟨K, fa, ca⟩ 0 [] [] H E) := fun r hr => by
      rw [hr]
      intro v H' loc' _ _ r
      cases rd_bl r
      exact hq H'
    exact go _ hc
  refine ⟨main.len, fun A outer s H args us vs Q E hr e0 hb r hs => codeAny_mono (main.run A outer s H args us vs Q E hr e0 hb r hs) fun r s' hq => ?_⟩
  cases r with
  | error e => exact ⟨_, _, hq⟩
  | ok fl => cases fl <;> exact hq
theorem law_noex {H : Hp} {s : Shared} {e : Value} {s' : Shared} (h : CXA [] H s (fun _ _ _ => False) e s') : False := by
  obtain ⟨P, w, a, B, H', cls, d, _, _, _, _, _, _, _, h⟩ := h
  exact h
end
end MS

set_option maxRecDepth 100000
set_option maxHeartbeats 1000000
/-! UwHead: the facts of the written part by one Bool; the Hook. -/
namespace MS
open PySem PySem.Spec PyProof.Rows L2
open MI (D SO Store R SR Ex Ts Sm TgN)

/-- where a function stands -/
inductive Pth where
  | glo (x : Str) | meth (c m : Str) | prop (c m : Str)
def getterOf (K : PySem.W.Frag) (p : Addr) : Addr := match PySem.W.recIn K p "property" with
  | some (.ref f :: _) => f
  | _ => 0
def pAd (K : PySem.W.Frag) : Pth → Addr
  | .glo x => He.ga K x
  | .meth c m => He.ma K (He.ga K c) m
  | .prop c m => getterOf K (He.ma K (He.ga K c) m)
/-- one def of the text -/
structure MDef where
  path : Pth
  name : Str
  qual : Str
  params : Arguments
  body : List Stmt
  scope : Scope
  N : List Str
/-- the tables of a law: ids to names and places -/
structure Tb where
  P : MI.Prog
  G : Gn
  fn : List MDef
  /-- classes' names -/
  cn : List Str
namespace Tb
variable (T : Tb) (K : PySem.W.Frag)
def fa (f : Nat) : Addr := match T.fn[f]? with
  | some d => pAd K d.path
  | none => 0
def ca (c : Nat) : Addr := match T.cn[c]? with
  | some x => He.ga K x
  | none => 0
end Tb

section
variable (K : PySem.W.Frag) (fa ca : Nat → Addr)
mutual
/-- a datum and a value of the written part -/
def rdB : D → Value → Bool
  | .non, u => match u with | .none => true | _ => false
  | .bl b, u => match u with | .bool c => b == c | _ => false
  | .int i, u => match u with | .int j _ => decide (i = j) | _ => false
  | .str x, u => match u with | .str y _ => decide (x = y) | _ => false
  | .tup ds, u => match u with
    | .ref a => (match K.lookup a with
      | some ⟨.type c, _, .seq its _, _⟩ => decide (c = "tuple") && decide (its.size ≤ sizeLine) && rdsB ds its.toList
      | _ => false)
    | _ => false
  | .lst ds, u => match u with
    | .ref a => (match K.lookup a with
      | some ⟨.type c, none, .seq its _, _⟩ => decide (c = "list") && decide (its.size ≤ sizeLine) && rdsB ds its.toList
      | _ => false)
    | _ => false
  | .fn f, u => match u with | .ref a => decide (fa f = a) | _ => false
  | .cls c, u => match u with | .ref a => decide (ca c = a) | _ => false
  | .ty n, u => match u with | .type m => decide (n = m) | _ => false
  | _, _ => false
def rdsB : List D → List Value → Bool
  | [], us => match us with | [] => true | _ => false
  | d :: r, us => match us with | u :: ur => rdB d u && rdsB r ur | _ => false
end
mutual
theorem rdB_ok : ∀ (d : D) (u : Value), rdB K fa ca d u = true → ∃ v, RelV v u ∧ ∀ loc Z H, RD ⟨K, fa, ca⟩ loc Z H d v
  | .non, u, h => by
    unfold rdB at h
    split at h
    · exact ⟨.non, rfl, fun _ _ _ => .non⟩
    · cases h
  | .bl b, u, h => by
    unfold rdB at h
    split at h
    · rename_i c; exact ⟨.bl b, by rw [beq_iff_eq.mp h]; rfl, fun _ _ _ => .bl b⟩
    · cases h
  | .int i, u, h => by
    unfold rdB at h
    split at h
    · rename_i j t; exact ⟨.int i, ⟨t, by rw [of_decide_eq_true h]⟩, fun _ _ _ => .int i⟩
    · cases h
  | .str x, u, h => by
    unfold rdB at h
    split at h
    · rename_i j t; exact ⟨.str x, ⟨t, by rw [of_decide_eq_true h]⟩, fun _ _ _ => .str x⟩
    · cases h
  | .tup ds, u, h => by
    unfold rdB at h
    split at h
    · rename_i a
      split at h
      · rename_i c od its n sl e
        obtain ⟨h, h1⟩ := band h
        obtain ⟨h2, h3⟩ := band h
        obtain ⟨vs, rv, rd⟩ := rdsB_ok ds _ h1
        exact ⟨.ref a, rfl, fun _ _ _ => .tupK ⟨_, its, n, e, congrArg Value.type (of_decide_eq_true h2), rfl, of_decide_eq_true h3, rv⟩ (rd _ _ _)⟩
      · cases h
    · cases h
  | .lst ds, u, h => by
    unfold rdB at h
    split at h
    · rename_i a
      split at h
      · rename_i c its n sl e
        obtain ⟨h, h1⟩ := band h
        obtain ⟨h2, h3⟩ := band h
        obtain ⟨vs, rv, rd⟩ := rdsB_ok ds _ h1
        exact ⟨.ref a, rfl, fun _ _ _ => .lstK ⟨_, its, n, e, congrArg Value.type (of_decide_eq_true h2), rfl, rfl, of_decide_eq_true h3, rv⟩ (rd _ _ _)⟩
      · cases h
    · cases h
  | .fn f, u, h => by
    unfold rdB at h
    split at h
    · rename_i a; exact ⟨.ref (fa f), by rw [of_decide_eq_true h]; rfl, fun _ _ _ => .fn f⟩
    · cases h
  | .cls c, u, h => by
    unfold rdB at h
    split at h
    · rename_i a; exact ⟨.ref (ca c), by rw [of_decide_eq_true h]; rfl, fun _ _ _ => .cls c⟩
    · cases h
  | .ty n, u, h => by
    unfold rdB at h
    split at h
    · rename_i m; exact ⟨.ty n, by rw [of_decide_eq_true h]; rfl, fun _ _ _ => .ty n⟩
    · cases h
  | .ref i, u, h => by unfold rdB at h; cases h
  | .ins c ds, u, h => by unfold rdB at h; cases h
theorem rdsB_ok : ∀ (ds : List D) (us : List Value), rdsB K fa ca ds us = true → ∃ vs, Vals vs us ∧ ∀ loc Z H, RDs ⟨K, fa, ca⟩ loc Z H ds vs
  | [], us, h => by
    unfold rdsB at h
    split at h
    · exact ⟨[], .nil, fun _ _ _ => .nil⟩
    · cases h
  | d :: r, us, h => by
    unfold rdsB at h
    split at h
    · obtain ⟨h1, h2⟩ := band h
      obtain ⟨v, rv, rd⟩ := rdB_ok d _ h1
      obtain ⟨vs, rvs, rds⟩ := rdsB_ok r _ h2
      exact ⟨v :: vs, .cons rv rvs, fun _ _ _ => .cons (rd _ _ _) (rds _ _ _)⟩
    · cases h
end
end

/-! ### facts -/
def oo (a b : Option (Option Value)) : Bool := decide (a = b)
def enum {α : Type} : Nat → List α → List (Nat × α)
  | _, [] => []
  | i, a :: r => (i, a) :: enum (i + 1) r
theorem enum_mem {α : Type} : ∀ {l : List α} {i j : Nat} {a : α}, l[j]? = some a → (i + j, a) ∈ enum i l
  | [], _, _, _, h => by simp at h
  | x :: r, i, 0, a, h => by
    simp at h; subst h
    exact List.mem_cons_self
  | x :: r, i, j + 1, a, h => by
    have := enum_mem (l := r) (i := i + 1) (j := j) (a := a) (by simpa using h)
    have e : i + (j + 1) = i + 1 + j := by omega
    rw [e]
    exact List.mem_cons_of_mem _ this
theorem enum_all {α : Type} {l : List α} {p : Nat × α → Bool} (h : (enum 0 l).all p = true) {j : Nat} {a : α} (e : l[j]? = some a) : p (j, a) = true := by
  have := List.all_eq_true.mp h (0 + j, a) (enum_mem e)
  rwa [Nat.zero_add] at this
def tys7 : List String := ["NoneType", "int", "bool", "str", "tuple", "list", "dict"]
def freeN : List Str := ["len", "abs", "max", "min", "int", "bool", "isinstance", "range", "str", "tuple", "list", "dict"].map Str.ofString
def clsB (K : PySem.W.Frag) (fa ca : Nat → Addr) (P : MI.Prog) (G : Gn) (c : Nat) (k : MI.Cls) : Bool :=
  let C := ca c
  PySem.W.plainGet K C Str.empty && PySem.W.isClsIn K C && PySem.W.plainOver K C && oo (PySem.W.findIn K (.ref C) "__setattr__") (some (some (.builtin "object.__setattr__"))) &&
  oo (PySem.W.findIn K (.ref C) "__class__") (some (some (.builtin "object.__class__"))) && oo (PySem.W.specialIn K (.builtin "object.__class__") "__get__") (some (some (.builtin "getset_descriptor.__get__"))) &&
  decide (PySem.W.takesIn K (.builtin "object.__class__") = some true) && decide (PySem.W.mroIn K C (.type "object") = some true) &&
  PySem.W.makesIn K C && oo (PySem.W.findIn K (.ref C) "__init__") (some (some (.ref (fa k.init)))) && PySem.W.isFn K (.ref (fa k.init)) && PySem.W.keepIn K (.ref C) && PySem.W.selfFirst K C &&
  (k.meths.all fun q => match G.at_[q.1]? with
    | some x => oo (PySem.W.findIn K (.ref C) x) (some (some (.ref (fa q.2)))) && PySem.W.isFn K (.ref (fa q.2)) && PySem.W.keepIn K (.ref (fa q.2))
    | none => false) &&
  ((enum 0 k.slots).all fun q => match G.at_[q.2]? with
    | some x => (match PySem.W.findIn K (.ref C) x with
      | some (some (.ref p)) => oo (PySem.W.specialIn K (.ref p) "__get__") (some (some (.builtin "member_descriptor.__get__"))) && decide (PySem.W.takesIn K (.ref p) = some true) && decide (PySem.W.typeIn K (.ref p) = some (.type "member_descriptor")) &&
          decide (PySem.W.slotIn K p C = some q.1) && Nat.blt q.1 1000
      | _ => false)
    | none => false) &&
  (k.props.all fun q => match G.at_[q.1]? with
    | some x => (match PySem.W.findIn K (.ref C) x with
      | some (some (.ref p)) => oo (PySem.W.specialIn K (.ref p) "__get__") (some (some (.builtin "property.__get__"))) && decide (PySem.W.takesIn K (.ref p) = some true) && (match PySem.W.recIn K p "property" with
          | some (.ref g :: _) => decide (g = fa q.2)
          | _ => false)
      | _ => false)
    | none => false) &&
  oo (PySem.W.findIn K (.ref C) "__ne__") (some (some (.builtin "object.__ne__"))) &&
  (MI.tyNames.all fun n => decide (PySem.W.kitOne K (.ref C) (.type n) = some false)) && (tys7.all fun n => decide (PySem.W.kitOne K (.type n) (.ref C) = some false)) &&
  ((enum 0 P.clss).all fun q => decide (PySem.W.kitOne K (.ref C) (.ref (ca q.1)) = some (Nat.beq c q.1)) && PySem.W.notFirst K C (.ref (ca q.1))) && (tys7.all fun n => PySem.W.notFirst K C (.type n))
def factsB (K : PySem.W.Frag) (fa ca : Nat → Addr) (P : MI.Prog) (G : Gn) : Bool :=
  ((enum 0 G.fn).all fun q => match q.2 with
    | some x => oo (PySem.W.nsIn K mainGlobals x) (some (some (.ref (fa q.1)))) && PySem.W.keepIn K (.ref (fa q.1))
    | none => true) &&
  ((enum 0 G.cl).all fun q => oo (PySem.W.nsIn K mainGlobals q.2) (some (some (.ref (ca q.1))))) &&
  ((enum 0 G.gl).all fun q => match P.glo[q.1]?, PySem.W.nsIn K mainGlobals q.2 with
    | some d, some (some u) => rdB K fa ca d u
    | none, _ => true
    | _, _ => false) &&
  ((enum 0 P.clss).all fun q => clsB K fa ca P G q.1 q.2) &&
  (freeN.all fun x => oo (PySem.W.nsIn K mainGlobals x) (some none)) &&
  nthIs G.at_ P.nAdd ("__add__" : Str) && nthIs G.at_ P.nSub ("__sub__" : Str) && nthIs G.at_ P.nMul ("__mul__" : Str) && nthIs G.at_ P.nNeg ("__neg__" : Str) && nthIs G.at_ P.nEq ("__eq__" : Str) && nthIs G.at_ P.nBool ("__bool__" : Str)
theorem lookup_mem2 {α : Type} {m : Nat} {a : α} : ∀ {l : List (Nat × α)}, l.lookup m = some a → (m, a) ∈ l
  | [], h => by cases h
  | (b, u) :: r, h => by
    rw [List.lookup_cons] at h
    cases q : (m == b) with
    | true =>
      rw [q] at h
      cases (Option.some.inj h)
      rw [beq_iff_eq.mp q]
      exact List.mem_cons_self
    | false =>
      rw [q] at h
      exact List.mem_cons_of_mem _ (lookup_mem2 h)
theorem clsB_ok {K : PySem.W.Frag} {fa ca : Nat → Addr} {P : MI.Prog} {G : Gn} {c : Nat} {k : MI.Cls} (hk : P.clss[c]? = some k) (h : clsB K fa ca P G c k = true) : ClsF K fa ca P G c k := by
  unfold clsB at h
  dsimp only at h
  obtain ⟨h, a24⟩ := band h
  obtain ⟨h, a23⟩ := band h
  obtain ⟨h, a22⟩ := band h
  obtain ⟨h, a21⟩ := band h
  obtain ⟨h, a20⟩ := band h
  obtain ⟨h, a19⟩ := band h
  obtain ⟨h, a18⟩ := band h
  obtain ⟨h, a17⟩ := band h
  obtain ⟨h, a13⟩ := band h
  obtain ⟨h, a12⟩ := band h
  obtain ⟨h, a11⟩ := band h
  obtain ⟨h, a10⟩ := band h
  obtain ⟨h, a9⟩ := band h
  obtain ⟨h, a8⟩ := band h
  obtain ⟨h, a7⟩ := band h
  obtain ⟨h, a6⟩ := band h
  obtain ⟨h, a5⟩ := band h
  obtain ⟨h, a4⟩ := band h
  obtain ⟨h, a3⟩ := band h
  obtain ⟨a1, a2⟩ := band h
  refine ⟨⟨a1, a2, a3, of_decide_eq_true a4⟩, ⟨of_decide_eq_true a5, of_decide_eq_true a6, of_decide_eq_true a7, of_decide_eq_true a8⟩, ⟨a9, of_decide_eq_true a10, a11, a12⟩, a13, ?_, ?_, ?_, of_decide_eq_true a20, ?_, ?_, ?_, ?_, ?_⟩
  · intro m f hm
    unfold MI.methOf at hm
    rw [hk] at hm
    have := List.all_eq_true.mp a17 (m, f) (lookup_mem2 hm)
    dsimp only at this
    cases hx : G.at_[m]? with
    | none => rw [hx] at this; cases this
    | some x =>
      rw [hx] at this
      obtain ⟨h1, h2⟩ := band this
      obtain ⟨h3, h4⟩ := band h1
      exact ⟨x, rfl, of_decide_eq_true h3, h4, h2⟩
  · intro m i hm
    unfold MI.slotOf at hm
    rw [hk] at hm
    obtain ⟨hi, he, _⟩ := List.findIdx?_eq_some_iff_getElem.mp hm
    have := enum_all a18 (j := i) (a := k.slots[i]) (List.getElem?_eq_getElem hi)
    dsimp only at this
    rw [beq_iff_eq.mp he] at this
    cases hx : G.at_[m]? with
    | none => rw [hx] at this; cases this
    | some x =>
      rw [hx] at this
      dsimp only at this
      split at this
      · rename_i p hp
        obtain ⟨h1, h2⟩ := band this
        obtain ⟨h1, h3⟩ := band h1
        obtain ⟨h1, h4⟩ := band h1
        obtain ⟨h1, h5⟩ := band h1
        exact ⟨x, p, rfl, hp, of_decide_eq_true h1, of_decide_eq_true h5, of_decide_eq_true h4, of_decide_eq_true h3, Nat.blt_eq.mp h2⟩
      · cases this
  · intro m f hm
    unfold MI.propOf at hm
    rw [hk] at hm
    have := List.all_eq_true.mp a19 (m, f) (lookup_mem2 hm)
    dsimp only at this
    cases hx : G.at_[m]? with
    | none => rw [hx] at this; cases this
    | some x =>
      rw [hx] at this
      dsimp only at this
      split at this
      · rename_i p hp
        obtain ⟨h1, h2⟩ := band this
        obtain ⟨h1, h3⟩ := band h1
        refine ⟨x, p, rfl, hp, of_decide_eq_true h1, of_decide_eq_true h3, ?_⟩
        split at h2
        · rename_i g rest hr
          exact ⟨rest, by rw [hr, of_decide_eq_true h2]⟩
        · cases h2
      · cases this
  · exact fun n hn => of_decide_eq_true (List.all_eq_true.mp a21 n (List.contains_iff_mem.mp hn))
  · exact fun n hn => of_decide_eq_true (List.all_eq_true.mp a22 n (List.contains_iff_mem.mp hn))
  · exact fun c' k' hk' => of_decide_eq_true (band (enum_all a23 hk')).1
  · exact fun c' k' hk' => (band (enum_all a23 hk')).2
  · exact fun n hn => List.all_eq_true.mp a24 n (List.contains_iff_mem.mp hn)
theorem factsB_ok {K : PySem.W.Frag} {fa ca : Nat → Addr} {P : MI.Prog} {G : Gn} {h : Heap} {mg : Str → Option Value} (X : K.In h) (N : h.Ns mainGlobals mg) (hb : factsB K fa ca P G = true) : Facts K mg fa ca P G := by
  unfold factsB at hb
  obtain ⟨hb, b11⟩ := band hb
  obtain ⟨hb, b10⟩ := band hb
  obtain ⟨hb, b9⟩ := band hb
  obtain ⟨hb, b8⟩ := band hb
  obtain ⟨hb, b7⟩ := band hb
  obtain ⟨hb, b6⟩ := band hb
  obtain ⟨hb, b5⟩ := band hb
  obtain ⟨hb, b4⟩ := band hb
  obtain ⟨hb, b3⟩ := band hb
  obtain ⟨b1, b2⟩ := band hb
  refine ⟨fun f x hx => ?_, fun c x hx => PySem.W.mg_of X N (of_decide_eq_true (enum_all b2 hx)), fun i x d hx hd => ?_, fun c k hk => clsB_ok hk (enum_all b4 hk), fun x hx => PySem.W.mg_none_of X N (of_decide_eq_true (List.all_eq_true.mp b5 x (List.contains_iff_mem.mp hx))),
    nth_is b6, nth_is b7, nth_is b8, nth_is b9, nth_is b10, nth_is b11⟩
  · have := enum_all b1 hx
    dsimp only at this
    obtain ⟨h1, h2⟩ := band this
    exact ⟨PySem.W.mg_of X N (of_decide_eq_true h1), h2⟩
  · have := enum_all b3 hx
    dsimp only at this
    rw [hd] at this
    split at this
    · rename_i d' u e1 e2
      cases (Option.some.inj e1)
      obtain ⟨v, rv, rd⟩ := rdB_ok K fa ca _ _ this
      exact ⟨v, u, PySem.W.mg_of X N e2, rv, rd⟩
    · rename_i e; cases e
    · cases this

/-! ### defs -/
def fnWp (K : PySem.W.Frag) (a : Addr) : He.FnW := match K.lookup a with
  | some ⟨_, _, .func fd, _⟩ => some (fd.name, fd.qualname, fd.params, fd.body, fd.scope, fd.globals, fd.closure, fd.builtins)
  | _ => none
def MDef.val (d : MDef) : He.FnW := some (d.name, d.qual, d.params, .stmts d.body, d.scope, mainGlobals, [], builtinsNs)
def dflM (K : PySem.W.Frag) (fa ca : Nat → Addr) (dV : Value) : List D → Bool
  | [] => (match dV with
    | .none => true
    | _ => false)
  | d :: ds => (match dV with
    | .ref T => (match K.lookup T with
      | some ⟨_, _, .seq its _, _⟩ => rdsB K fa ca (d :: ds) its.toList
      | _ => false)
    | _ => false)
def mdB (K : PySem.W.Frag) (fa ca : Nat → Addr) (d : MDef) (dfl : List D) : Bool := PySem.W.keepIn K (.ref (pAd K d.path)) && (match K.lookup (pAd K d.path) with
  | some ⟨_, _, .func fd, _⟩ => PySem.W.codeIn K fd.code d.qual && dflM K fa ca fd.defaults dfl
  | _ => false)
theorem md_ok {K : PySem.W.Frag} {fa ca : Nat → Addr} {d : MDef} {dfl : List D} (e : fnWp K (pAd K d.path) = d.val) (c : mdB K fa ca d dfl = true) :
    ∃ dvs fd, FunD K d.name d.qual d.params d.body d.scope dvs [] (pAd K d.path) fd ∧ ∀ loc Z H, RDs ⟨K, fa, ca⟩ loc Z H dfl dvs := by
  obtain ⟨kp, c2⟩ := band c
  unfold fnWp at e
  cases q : K.lookup (pAd K d.path) with
  | none =>
    rw [q] at c2
    cases c2
  | some o =>
    obtain ⟨oc, od, dt, osl⟩ := o
    rw [q] at c2 e
    cases dt with
    | func fd =>
      obtain ⟨n1, n2, n3, n4, n5, n6, n7, n8, n9, n10, n11, n12, n13, n14, n15⟩ := fd
      have e2 : (some (n1, n2, n3, n4, n5, n6, n7, n15) : He.FnW) = some (d.name, d.qual, d.params, .stmts d.body, d.scope, mainGlobals, [], builtinsNs) := e
      simp only [Option.some.injEq, Prod.mk.injEq] at e2
      obtain ⟨h1, h2, h3, h4, h5, h6, h7, h8⟩ := e2
      subst h1 h2 h3 h4 h5 h6 h7 h8
      have c3 : (PySem.W.codeIn K n13 d.qual && dflM K fa ca n8 dfl) = true := c2
      obtain ⟨k1, k2⟩ := band c3
      cases dfl with
      | nil =>
        cases n8 with
        | none => exact ⟨[], _, ⟨⟨oc, od, .none, n9, n10, n11, n12, n13, n14, osl, rfl, q, k1, .inl ⟨rfl, rfl⟩, .inl rfl⟩, kp⟩, fun _ _ _ => .nil⟩
        | _ => cases k2
      | cons d0 dr =>
        cases n8 with
        | ref T =>
          have h1 : (match K.lookup T with
            | some ⟨_, _, .seq its _, _⟩ => rdsB K fa ca (d0 :: dr) its.toList
            | _ => false) = true := k2
          cases q2 : K.lookup T with
          | none => rw [q2] at h1; cases h1
          | some o2 =>
            obtain ⟨oc2, od2, dt2, osl2⟩ := o2
            rw [q2] at h1
            cases dt2 with
            | seq its n =>
              obtain ⟨vs, rv, rd⟩ := rdsB_ok K fa ca _ _ h1
              have hne : vs ≠ [] := fun z => by subst z; cases (rd [] (fun _ => False) (fun _ => none))
              exact ⟨vs, _, ⟨⟨oc, od, .ref T, n9, n10, n11, n12, n13, n14, osl, rfl, q, k1, .inr ⟨hne, T, _, its.toList, n, rfl, q2, by simp, rv⟩, .inl rfl⟩, kp⟩, rd⟩
            | _ => cases h1
        | _ => cases k2
    | _ => cases c2

/-! ### the Hook -/
abbrev AlM : Type := Bool × List He.FnW
def allMd (K : PySem.W.Frag) (T : Tb) : Bool := (enum 0 T.fn).all fun q => match T.P.defs[q.1]? with
  | some d => mdB K (T.fa K) (T.ca K) q.2 d.dfl
  | none => false
def obsM (T : Tb) (K : PySem.W.Frag) : AlM := (factsB K (T.fa K) (T.ca K) T.P T.G && allMd K T, T.fn.map fun d => fnWp K (pAd K d.path))
def valM (T : Tb) : AlM := (true, T.fn.map MDef.val)
def SaysM (T : Tb) (K : PySem.W.Frag) : Prop := obsM T K = valM T
def obsMG (n : Nat) (T : Tb) (g : Addr → Option Obj) : AlM := obsM T (He.frG g (He.asD g n))
def hookM (n : Nat) (T : Tb) : PySem.W.Hook where
  α := AlM
  obs := fun s => obsMG n T s.heap.get?
  val := fun _ => valM T
  says := fun _ h => ∃ K : PySem.W.Frag, K.In h ∧ SaysM T K
  of := fun _ _ e => ⟨_, He.frG_in, e⟩
  keeps := fun _ _ _ ⟨K, hK, c⟩ k => ⟨K, PySem.W.Frag.In.keeps hK k, c⟩
theorem obsMG_eq {n : Nat} {T : Tb} {g : Addr → Option Obj} {s : Shared} (h : ∀ a, g a = s.heap.get? a) : obsMG n T g = (hookM n T).obs s := by
  have e : g = s.heap.get? := funext h
  rw [e] <;> rfl

/-- what each def's text must be, the kernel's work -/
def fsB (N : List Str) (ps : List Str) (sc : Scope) : Bool := decide (sc.kind = .function) && !sc.isCoroutine && !sc.isGenerator && decide N.Nodup && decide (N.take ps.length = ps) && (ps.all fun x => sc.names.lookup x == some .local) && (sc.names.all fun y => !decide (y.2 = .free))
theorem fsB_ok {N ps : List Str} {sc : Scope} (h : fsB N ps sc = true) : FnScope N ps sc := by
  unfold fsB at h
  obtain ⟨h, a7⟩ := band h
  obtain ⟨h, a6⟩ := band h
  obtain ⟨h, a5⟩ := band h
  obtain ⟨h, a4⟩ := band h
  obtain ⟨h, a3⟩ := band h
  obtain ⟨a1, a2⟩ := band h
  exact ⟨of_decide_eq_true a1, by simpa using a2, by simpa using a3, of_decide_eq_true a4, of_decide_eq_true a5, fun x hx => .inl (beq_iff_eq.mp (List.all_eq_true.mp a6 x hx)), fun y hy z => by
    have := List.all_eq_true.mp a7 y hy
    rw [z] at this; exact absurd this (by decide)⟩
def txtB (T : Tb) (m : MDef) (d : MI.Def) : Bool := simpleParams m.params && fsB m.N (m.params.args.map (·.arg)) m.scope && Nat.beq d.np (m.params.args.map (·.arg)).length && Nat.beq d.ns m.N.length && Nat.ble d.dfl.length d.np && mSs ⟨m.scope.names, m.N, T.G, T.P⟩ d.body m.body
def txtsB (T : Tb) : Bool := Nat.beq T.P.defs.length T.fn.length && (enum 0 T.fn).all fun q => match T.P.defs[q.1]? with
  | some d => txtB T q.2 d
  | none => false
theorem says_defs {T : Tb} {K : PySem.W.Frag} (c : SaysM T K) {f : Nat} {m : MDef} {d : MI.Def} (hf : T.fn[f]? = some m) (hd : T.P.defs[f]? = some d) :
    ∃ dvs fd, FunD K m.name m.qual m.params m.body m.scope dvs [] (T.fa K f) fd ∧ ∀ loc Z H, RDs ⟨K, T.fa K, T.ca K⟩ loc Z H d.dfl dvs := by
  have c1 : (factsB K (T.fa K) (T.ca K) T.P T.G && allMd K T) = true := congrArg (fun z : AlM => z.1) c
  have c2 : (T.fn.map fun d => fnWp K (pAd K d.path)) = T.fn.map MDef.val := congrArg (fun z : AlM => z.2) c
  have e := enum_all (band c1).2 hf
  dsimp only at e
  rw [hd] at e
  have e2 : (T.fn.map fun d => fnWp K (pAd K d.path))[f]? = (T.fn.map MDef.val)[f]? := by rw [c2]
  rw [List.getElem?_map, List.getElem?_map, hf] at e2
  have ef : T.fa K f = pAd K m.path := by unfold Tb.fa; rw [hf]
  rw [ef]
  exact md_ok (Option.some.inj e2) e
theorem defs_of {T : Tb} {K : PySem.W.Frag} (c : SaysM T K) (t : txtsB T = true) (f : Nat) (d : MI.Def) (hd : T.P.defs[f]? = some d) : DefF K (T.fa K) (T.ca K) T.P T.G f d := by
  obtain ⟨t1, t2⟩ := band t
  have hl := Nat.eq_of_beq_eq_true t1
  have hlt : f < T.fn.length := by
    rw [← hl]; exact (List.getElem?_eq_some_iff.mp hd).1
  have hf : T.fn[f]? = some T.fn[f] := List.getElem?_eq_getElem hlt
  have e := enum_all t2 hf
  dsimp only at e
  rw [hd] at e
  obtain ⟨e, a6⟩ := band e
  obtain ⟨e, a5⟩ := band e
  obtain ⟨e, a4⟩ := band e
  obtain ⟨e, a3⟩ := band e
  obtain ⟨a1, a2⟩ := band e
  obtain ⟨dvs, fd, FD, rd⟩ := says_defs c hf hd
  have h3 := Nat.eq_of_beq_eq_true a3
  have h5 := Nat.le_of_ble_eq_true a5
  have hdl := (rd [] (fun _ => False) (fun _ => none)).length
  exact ⟨_, _, _, _, _, dvs, [], fd, _, _, FD, fsB_ok a2, a1, rfl, h3, Nat.eq_of_beq_eq_true a4, by omega, rd, a6⟩
/-- the law's end -/
theorem law_end {T : Tb} {k f n : Nat} {lx : Str} {m : MDef} {d : MI.Def} (t : txtsB T = true) (hf : T.fn[f]? = some m) (hd : T.P.defs[f]? = some d) (hps : m.params.args.map (·.arg) = [lx]) (hdf : d.dfl = [])
    (plain : ∀ ns : List Int, ns.length ≤ n → ∃ μ, MI.callN T.P (k + 1) 0 f [.lst (ns.map D.int)] [] = .ok (.bl true) μ)
    {prog : Program} {w : World} {K : PySem.W.Frag} {h : Heap} {mg : Str → Option Value} {a : Addr} (X : K.In h) (N : h.Ns mainGlobals mg) (c : SaysM T K) (ha : T.fa K f = a) :
    ∃ (fd : FuncData) (sp : Sp), (∀ (s : Shared) (u : Value), BindsTo s fd ⟨[u], []⟩ [(lx, u)]) ∧
      (∀ (H : Hp) (a : Addr) (ns : List Int), ns.length ≤ n → Only H → SqL K H a (ns.map V.int) → sp [.ref a] H (fun v _ => v = .bl true) fun _ _ _ => False) ∧
      ∀ base : Heap, K.In base → base.Ns mainGlobals mg → FnOk prog w K mg base CXA (4 * k + 4) a fd [lx] sp := by
  subst ha
  obtain ⟨t1, t2⟩ := band t
  have e := enum_all t2 hf
  dsimp only at e
  rw [hd] at e
  obtain ⟨e, a6⟩ := band e
  obtain ⟨e, a5⟩ := band e
  obtain ⟨e, a4⟩ := band e
  obtain ⟨e, a3⟩ := band e
  obtain ⟨a1, a2⟩ := band e
  obtain ⟨dvs, fd, FD, rd⟩ := says_defs c hf hd
  rw [hdf] at rd
  have hdv : dvs = [] := by
    cases (rd [] (fun _ => False) (fun _ => none)); rfl
  subst hdv
  have FS := fsB_ok a2
  rw [hps] at FS
  have h3 := Nat.eq_of_beq_eq_true a3
  rw [hps] at h3
  have Fc : Facts K mg (T.fa K) (T.ca K) T.P T.G := factsB_ok X N (band (show (factsB K (T.fa K) (T.ca K) T.P T.G && allMd K T) = true from congrArg (fun z : AlM => z.1) c)).1
  refine ⟨fd, _, fun s u => ?_, fun H a ns hl _ hS => ⟨a, ns, rfl, hl, hS, fun _ => rfl⟩, fun base _ _ => law_ok Fc (defs_of c t) hd FD FS h3 (Nat.eq_of_beq_eq_true a4) hdf a6 plain⟩
  obtain ⟨oc, od, dV, kV, doc, pm, an, cdv, ct, osl, rfl, lk, hcd, hD, hK⟩ := FD.ex
  rcases hD with ⟨_, rfl⟩ | ⟨z, _⟩
  · unfold simpleParams at a1
    obtain ⟨a1, p1⟩ := band a1
    obtain ⟨a1, p2⟩ := band a1
    obtain ⟨p3, p4⟩ := band a1
    obtain ⟨k, e1, e2⟩ := bind_gen (fd := PySem.W.fnOf m.name m.qual m.params m.body m.scope .none kV doc pm an cdv ct) (ps := [lx]) (us := [u]) (its := []) (by simpa [PySem.W.fnOf] using p3) (by simpa [PySem.W.fnOf] using p4) (by simpa [PySem.W.fnOf] using p2) (by simpa [PySem.W.fnOf] using p1) hps (by simp) (by simp) (by simp) (by simp)
    refine .of_eq ?_
    rw [e1]
    exact e2 none rfl
  · exact absurd rfl z
end MS

set_option maxRecDepth 100000
/-! UwRun: the interpreter's equations, for simp. -/
namespace MI
section
variable (P : Prog) (cf : Nat → Call) (b : Nat)
@[simp] theorem ofO_some {α : Type} (μ : Store) (a : α) : ofO μ (some a) = .ok a μ := rfl
@[simp] theorem ofO_none {α : Type} (μ : Store) : (ofO μ (none : Option α)) = .no := rfl
@[simp] theorem bind_ok {α β : Type} (a : α) (μ : Store) (f : α → Store → R β) : (R.ok a μ).bind f = f a μ := rfl
@[simp] theorem bind_no {α β : Type} (f : α → Store → R β) : (R.no : R α).bind f = .no := rfl
@[simp] theorem bind_ex {α β : Type} (x : D) (μ : Store) (f : α → Store → R β) : (R.ex x μ : R α).bind f = .ex x μ := rfl
@[simp] theorem go_ok {α : Type} (a : α) (μ : Store) (e : Env) (f : α → Store → SR) : (R.ok a μ).go e f = f a μ := rfl
@[simp] theorem go_no {α : Type} (e : Env) (f : α → Store → SR) : (R.no : R α).go e f = .no := rfl
@[simp] theorem noEx_ok (d : D) (μ : Store) : noEx (.ok d μ) = .ok d μ := rfl
@[simp] theorem blR_ok (k : Bool) (μ : Store) : blR (.ok (.bl k) μ) = .ok (.bl k) μ := rfl
@[simp] theorem notR_ok (k : Bool) (μ : Store) : notR (.ok (.bl k) μ) = .ok (.bl (!k)) μ := rfl
@[simp] theorem evE_var (i : Nat) (e : Env) (μ : Store) : evE P cf b (.var i) e μ = ofO μ (e[i]?).join := rfl
@[simp] theorem evE_lit (d : D) (e : Env) (μ : Store) : evE P cf b (.lit d) e μ = .ok d μ := rfl
@[simp] theorem evE_gl (i : Nat) (e : Env) (μ : Store) : evE P cf b (.gl i) e μ = ofO μ P.glo[i]? := rfl
@[simp] theorem evE_fnv (f : Nat) (e : Env) (μ : Store) : evE P cf b (.fnv f) e μ = .ok (.fn f) μ := rfl
@[simp] theorem evE_clv (f : Nat) (e : Env) (μ : Store) : evE P cf b (.clv f) e μ = .ok (.cls f) μ := rfl
@[simp] theorem evE_tyv (n : String) (e : Env) (μ : Store) : evE P cf b (.tyv n) e μ = .ok (.ty n) μ := rfl
@[simp] theorem evE_bin (op : Op2) (x y : Ex) (e : Env) (μ : Store) : evE P cf b (.bin op x y) e μ = (evE P cf b x e μ).bind fun u μ1 => (evE P cf b y e μ1).bind fun v μ2 => op2 P cf b op u v μ2 := rfl
def negC (u : D) (μ : Store) : R D := match u with
    | .int i => .ok (.int (-i)) μ
    | .ins c _ => (match methOf P c P.nNeg with
      | some f => noEx (cf b f [u] μ)
      | none => .no)
    | _ => .no
@[simp] theorem evE_neg (x : Ex) (e : Env) (μ : Store) : evE P cf b (.neg x) e μ = (evE P cf b x e μ).bind fun u μ1 => negC P cf b u μ1 := rfl
@[simp] theorem negC_int (i : Int) (μ : Store) : negC P cf b (.int i) μ = .ok (.int (-i)) μ := rfl
@[simp] theorem evE_cmp (op : Cp) (x y : Ex) (e : Env) (μ : Store) : evE P cf b (.cmp op x y) e μ = (evE P cf b x e μ).bind fun u μ1 => (evE P cf b y e μ1).bind fun v μ2 => cmp2 P cf b op u v μ2 := rfl
@[simp] theorem evE_isN (x : Ex) (e : Env) (μ : Store) : evE P cf b (.isN x) e μ = (evE P cf b x e μ).bind fun u μ1 => .ok (.bl (isNonD u)) μ1 := rfl
@[simp] theorem evE_notN (x : Ex) (e : Env) (μ : Store) : evE P cf b (.notN x) e μ = (evE P cf b x e μ).bind fun u μ1 => .ok (.bl (!isNonD u)) μ1 := rfl
@[simp] theorem evE_and (es : List Ex) (e : Env) (μ : Store) : evE P cf b (.and es) e μ = evAnd P cf b es e μ := rfl
@[simp] theorem evE_or (es : List Ex) (e : Env) (μ : Store) : evE P cf b (.or es) e μ = evOr P cf b es e μ := rfl
@[simp] theorem evE_not (x : Ex) (e : Env) (μ : Store) : evE P cf b (.not x) e μ = (evE P cf b x e μ).bind fun u μ1 => ofO μ1 ((truth μ1 u).map fun k => .bl (!k)) := rfl
@[simp] theorem evE_ite (c : Ts) (x y : Ex) (e : Env) (μ : Store) : evE P cf b (.ite c x y) e μ = (evT P cf b c e μ).bind fun k μ1 => bif k then evE P cf b x e μ1 else evE P cf b y e μ1 := rfl
@[simp] theorem evE_call (f : Nat) (as : List Ex) (e : Env) (μ : Store) : evE P cf b (.call f as) e μ = (evL P cf b as e μ).bind fun vs μ1 => cf b f vs μ1 := rfl
@[simp] theorem evE_new (f : Nat) (as : List Ex) (e : Env) (μ : Store) : evE P cf b (.new f as) e μ = (evL P cf b as e μ).bind fun vs μ1 => new P cf f vs μ1 := rfl
@[simp] theorem evE_bcall (f : Bi) (as : List Ex) (e : Env) (μ : Store) : evE P cf b (.bcall f as) e μ = (evL P cf b as e μ).bind fun vs μ1 => biC P cf b f vs μ1 := rfl
def methC (m : Nat) (u : D) (μ1 : Store) (q : Store → R (List D)) : R D := match u with
    | .ins c _ => (match methOf P c m with
      | some f => (q μ1).bind fun vs μ2 => cf b f (u :: vs) μ2
      | none => .no)
    | _ => .no
@[simp] theorem evE_meth (m : Nat) (o : Ex) (as : List Ex) (e : Env) (μ : Store) : evE P cf b (.meth m o as) e μ = (evE P cf b o e μ).bind fun u μ1 => methC P cf b m u μ1 (evL P cf b as e) := rfl
@[simp] theorem evE_bmeth (f : Bm) (o : Ex) (as : List Ex) (e : Env) (μ : Store) : evE P cf b (.bmeth f o as) e μ = (evE P cf b o e μ).bind fun u μ1 => bif bmT f u then (evL P cf b as e μ1).bind fun vs μ2 => bmC f u vs μ2 else .no := rfl
@[simp] theorem evE_attr (m : Nat) (o : Ex) (e : Env) (μ : Store) : evE P cf b (.attr m o) e μ = (evE P cf b o e μ).bind fun u μ1 => attrC P cf b m u μ1 := rfl
@[simp] theorem evE_idx (o i : Ex) (e : Env) (μ : Store) : evE P cf b (.idx o i) e μ = (evE P cf b o e μ).bind fun u μ1 => (evE P cf b i e μ1).bind fun v μ2 => idxC u v μ2 := rfl
@[simp] theorem evE_tup (es : List Ex) (e : Env) (μ : Store) : evE P cf b (.tup es) e μ = (evL P cf b es e μ).bind fun vs μ1 => if Nat.ble vs.length 1000000 then .ok (.tup vs) μ1 else .no := rfl
@[simp] theorem evE_lst (m : Bool) (es : List Ex) (e : Env) (μ : Store) : evE P cf b (.lst m es) e μ = (evL P cf b es e μ).bind fun vs μ1 => if Nat.ble vs.length 1000000 then (bif m then .ok (.ref μ1.length) (μ1 ++ [.lst vs]) else .ok (.lst vs) μ1) else .no := rfl
@[simp] theorem evL_nil (e : Env) (μ : Store) : evL P cf b [] e μ = .ok [] μ := rfl
@[simp] theorem evL_cons (x : Ex) (r : List Ex) (e : Env) (μ : Store) : evL P cf b (x :: r) e μ = (evE P cf b x e μ).bind fun u μ1 => (evL P cf b r e μ1).bind fun vs μ2 => .ok (u :: vs) μ2 := rfl
@[simp] theorem evAnd_one (x : Ex) (e : Env) (μ : Store) : evAnd P cf b [x] e μ = (evE P cf b x e μ).bind fun u μ1 => .ok u μ1 := rfl
@[simp] theorem evAnd_cons (x y : Ex) (r : List Ex) (e : Env) (μ : Store) : evAnd P cf b (x :: y :: r) e μ = (evE P cf b x e μ).bind fun u μ1 => (ofO μ1 (truth μ1 u)).bind fun k μ2 => bif k then evAnd P cf b (y :: r) e μ2 else .ok u μ2 := rfl
@[simp] theorem evOr_one (x : Ex) (e : Env) (μ : Store) : evOr P cf b [x] e μ = (evE P cf b x e μ).bind fun u μ1 => .ok u μ1 := rfl
@[simp] theorem evOr_cons (x y : Ex) (r : List Ex) (e : Env) (μ : Store) : evOr P cf b (x :: y :: r) e μ = (evE P cf b x e μ).bind fun u μ1 => (ofO μ1 (truth μ1 u)).bind fun k μ2 => bif k then .ok u μ2 else evOr P cf b (y :: r) e μ2 := rfl
@[simp] theorem evT_val (x : Ex) (e : Env) (μ : Store) : evT P cf b (.val x) e μ = (evE P cf b x e μ).bind fun u μ1 => ofO μ1 (truth μ1 u) := rfl
@[simp] theorem evT_and (ts : List Ts) (e : Env) (μ : Store) : evT P cf b (.and ts) e μ = evTA P cf b ts e μ := rfl
@[simp] theorem evT_or (ts : List Ts) (e : Env) (μ : Store) : evT P cf b (.or ts) e μ = evTO P cf b ts e μ := rfl
@[simp] theorem evT_not (x : Ts) (e : Env) (μ : Store) : evT P cf b (.not x) e μ = (evT P cf b x e μ).bind fun k μ1 => .ok (!k) μ1 := rfl
@[simp] theorem evTA_one (x : Ts) (e : Env) (μ : Store) : evTA P cf b [x] e μ = (evT P cf b x e μ).bind fun k μ1 => .ok k μ1 := rfl
@[simp] theorem evTA_cons (x y : Ts) (r : List Ts) (e : Env) (μ : Store) : evTA P cf b (x :: y :: r) e μ = (evT P cf b x e μ).bind fun k μ1 => bif k then evTA P cf b (y :: r) e μ1 else .ok false μ1 := rfl
@[simp] theorem evTO_one (x : Ts) (e : Env) (μ : Store) : evTO P cf b [x] e μ = (evT P cf b x e μ).bind fun k μ1 => .ok k μ1 := rfl
@[simp] theorem evTO_cons (x y : Ts) (r : List Ts) (e : Env) (μ : Store) : evTO P cf b (x :: y :: r) e μ = (evT P cf b x e μ).bind fun k μ1 => bif k then .ok true μ1 else evTO P cf b (y :: r) e μ1 := rfl
@[simp] theorem exL_nil (e : Env) (μ : Store) : exL P cf b [] e μ = .nx e μ := rfl
/-- behind a statement -/
def SR.then (q : SR) (f : Env → Store → SR) : SR := match q with
  | .nx e μ => f e μ
  | q => q
@[simp] theorem exL_cons (x : Sm) (r : List Sm) (e : Env) (μ : Store) : exL P cf b (x :: r) e μ = (exS P cf b x e μ).then (exL P cf b r) := by
  show (match exS P cf b x e μ with | .nx e1 μ1 => exL P cf b r e1 μ1 | q => q) = _
  cases exS P cf b x e μ <;> rfl
@[simp] theorem then_nx (e : Env) (μ : Store) (f : Env → Store → SR) : (SR.nx e μ).then f = f e μ := rfl
@[simp] theorem then_rt (d : D) (μ : Store) (f : Env → Store → SR) : (SR.rt d μ).then f = .rt d μ := rfl
@[simp] theorem then_bk (e : Env) (μ : Store) (f : Env → Store → SR) : (SR.bk e μ).then f = .bk e μ := rfl
@[simp] theorem then_ct (e : Env) (μ : Store) (f : Env → Store → SR) : (SR.ct e μ).then f = .ct e μ := rfl
@[simp] theorem then_no (f : Env → Store → SR) : (SR.no).then f = .no := rfl
@[simp] theorem exS_pass (e : Env) (μ : Store) : exS P cf b .pass e μ = .nx e μ := rfl
@[simp] theorem exS_ret (x : Ex) (e : Env) (μ : Store) : exS P cf b (.ret x) e μ = (evE P cf b x e μ).go e fun u μ1 => .rt u μ1 := rfl
@[simp] theorem exS_retN (e : Env) (μ : Store) : exS P cf b .retN e μ = .rt .non μ := rfl
@[simp] theorem exS_expr (x : Ex) (e : Env) (μ : Store) : exS P cf b (.expr x) e μ = (evE P cf b x e μ).go e fun _ μ1 => .nx e μ1 := rfl
@[simp] theorem exS_asg (i : Nat) (x : Ex) (e : Env) (μ : Store) : exS P cf b (.asg i x) e μ = (evE P cf b x e μ).go e fun u μ1 => setV i u e μ1 := rfl
@[simp] theorem exS_par (i j : Nat) (x y : Ex) (e : Env) (μ : Store) : exS P cf b (.par i j x y) e μ = (evE P cf b x e μ).go e fun u μ1 => (evE P cf b y e μ1).go e fun v μ2 =>
  if Nat.blt i e.length && Nat.blt j e.length then .nx ((e.set i (some u)).set j (some v)) μ2 else .no := rfl
@[simp] theorem exS_par3 (i j l : Nat) (x y z : Ex) (e : Env) (μ : Store) : exS P cf b (.par3 i j l x y z) e μ = (evE P cf b x e μ).go e fun u μ1 => (evE P cf b y e μ1).go e fun v μ2 => (evE P cf b z e μ2).go e fun w μ3 =>
  if Nat.blt i e.length && Nat.blt j e.length && Nat.blt l e.length then .nx (((e.set i (some u)).set j (some v)).set l (some w)) μ3 else .no := rfl
def unpC (o : Option Env) (μ : Store) : SR := match o with
  | some e1 => .nx e1 μ
  | none => .no
@[simp] theorem unpC_some (e : Env) (μ : Store) : unpC (some e) μ = .nx e μ := rfl
@[simp] theorem exS_unp (ts : TgN) (x : Ex) (e : Env) (μ : Store) : exS P cf b (.unp ts x) e μ = (evE P cf b x e μ).go e fun u μ1 => unpC (setT ts u e) μ1 := rfl
@[simp] theorem exS_asgS (o i x : Ex) (e : Env) (μ : Store) : exS P cf b (.asgS o i x) e μ = (evE P cf b x e μ).go e fun v μ1 => (evE P cf b o e μ1).go e fun u μ2 => (evE P cf b i e μ2).go e fun k μ3 => setA b u k v e μ3 := rfl
@[simp] theorem exS_asgA (m : Nat) (o x : Ex) (e : Env) (μ : Store) : exS P cf b (.asgA m o x) e μ = (evE P cf b x e μ).go e fun v μ1 => (evE P cf b o e μ1).go e fun u μ2 => setF P b m u v e μ2 := rfl
@[simp] theorem exS_ifs (c : Ts) (x y : List Sm) (e : Env) (μ : Store) : exS P cf b (.ifs c x y) e μ = (evT P cf b c e μ).go e fun k μ1 => bif k then exL P cf b x e μ1 else exL P cf b y e μ1 := rfl
@[simp] theorem exS_whl (c : Ts) (x : List Sm) (e : Env) (μ : Store) : exS P cf b (.whl c x) e μ = whileN (evT P cf b c) (exL P cf b x) P.fuel e μ := rfl
def forRC (i : Nat) (f : Env → Store → SR) (u : D) (e : Env) (μ : Store) : SR := match u with
    | .int k => if decide (k < 4611686018427387904) && decide (-4611686018427387904 ≤ k) then forN i f k.toNat 0 e μ else .no
    | _ => .no
@[simp] theorem exS_forR (i : Nat) (n : Ex) (x : List Sm) (e : Env) (μ : Store) : exS P cf b (.forR i n x) e μ = (evE P cf b n e μ).go e fun u μ1 => forRC i (exL P cf b x) u e μ1 := rfl
@[simp] theorem exS_brk (e : Env) (μ : Store) : exS P cf b .brk e μ = .bk e μ := rfl
@[simp] theorem exS_cont (e : Env) (μ : Store) : exS P cf b .cont e μ = .ct e μ := rfl
/-- what a body's end tells its caller -/
def SR.back (p : Bool) (μ : Store) : SR → R D
  | .rt v μ1 => done p μ v μ1
  | .nx _ μ1 => done p μ .non μ1
  | .ex x _ μ1 => doneX p μ x μ1
  | _ => .no
@[simp] theorem back_rt (p : Bool) (μ : Store) (v : D) (μ1 : Store) : (SR.rt v μ1).back p μ = done p μ v μ1 := rfl
@[simp] theorem back_nx (p : Bool) (μ : Store) (e : Env) (μ1 : Store) : (SR.nx e μ1).back p μ = done p μ .non μ1 := rfl
@[simp] theorem done_false (μ : Store) (v : D) (μ1 : Store) : done false μ v μ1 = .ok v μ1 := rfl
@[simp] theorem done_same (p : Bool) (μ : Store) (v : D) : done p μ v μ = .ok v μ := by unfold done; split <;> rfl
theorem done_lt (μ : Store) (v : D) (μ1 : Store) (h : D.lt μ.length v = true) : done true μ v μ1 = .ok v μ := by unfold done; rw [h]; rfl
theorem callN_eq {k f : Nat} {as vs : List D} {d : Def} {μ : Store} (hd : P.defs[f]? = some d) (hf : fill d as = some vs) :
    callN P (k + 1) b f as μ = (exL P (callN P k) (bif d.pure then μ.length else b) d.body (vs.map some ++ List.replicate (d.ns - d.np) none) μ).back d.pure μ := by
  unfold callN
  rw [hd]
  dsimp only
  rw [hf]
  dsimp only
  cases exL P (callN P k) (bif d.pure then μ.length else b) d.body (vs.map some ++ List.replicate (d.ns - d.np) none) μ <;> rfl
/-- a call by its body: the depth as it stands -/
theorem callN_at {k f : Nat} {as vs : List D} {d : Def} {μ : Store} (hk : 0 < k) (hd : P.defs[f]? = some d) (hf : fill d as = some vs) :
    callN P k b f as μ = (exL P (callN P (k - 1)) (bif d.pure then μ.length else b) d.body (vs.map some ++ List.replicate (d.ns - d.np) none) μ).back d.pure μ := by
  obtain ⟨j, rfl⟩ : ∃ j, k = j + 1 := ⟨k - 1, by omega⟩
  exact callN_eq P b hd hf
@[simp] theorem op2_int (op : Op2) (i j : Int) (μ : Store) : op2 P cf b op (.int i) (.int j) μ = ofO μ ((opI op i j).map .int) := rfl
@[simp] theorem opI_add (i j : Int) : opI .add i j = some (i + j) := rfl
@[simp] theorem opI_sub (i j : Int) : opI .sub i j = some (i - j) := rfl
theorem opI_mul (i j : Int) (h : mulOk i j = true) : opI .mul i j = some (i * j) := by unfold opI; rw [if_pos h]
theorem opI_fdiv (i j : Int) (h : divOk j = true) : opI .fdiv i j = some (i / j) := by unfold opI; rw [if_pos h]
theorem opI_mod (i j : Int) (h : 0 < j) : opI .mod i j = some (i % j) := by unfold opI; rw [if_pos (decide_eq_true h)]
@[simp] theorem cmp2_int (op : Cp) (i j : Int) (μ : Store) : cmp2 P cf b op (.int i) (.int j) μ = .ok (.bl (cmpI op i j)) μ := rfl
@[simp] theorem cmpI_eq (i j : Int) : cmpI .eq i j = decide (i = j) := rfl
@[simp] theorem cmpI_ne (i j : Int) : cmpI .ne i j = !decide (i = j) := rfl
@[simp] theorem cmpI_lt (i j : Int) : cmpI .lt i j = decide (i < j) := rfl
@[simp] theorem cmpI_le (i j : Int) : cmpI .le i j = decide (i ≤ j) := rfl
@[simp] theorem cmpI_gt (i j : Int) : cmpI .gt i j = decide (j < i) := rfl
@[simp] theorem cmpI_ge (i j : Int) : cmpI .ge i j = decide (j ≤ i) := rfl
@[simp] theorem truth_bl (μ : Store) (k : Bool) : truth μ (.bl k) = some k := rfl
@[simp] theorem truth_int (μ : Store) (i : Int) : truth μ (.int i) = some (i != 0) := rfl
@[simp] theorem truth_non (μ : Store) : truth μ .non = some false := rfl
@[simp] theorem setV_eq (i : Nat) (d : D) (e : Env) (μ : Store) : setV i d e μ = if Nat.blt i e.length then .nx (e.set i (some d)) μ else .no := rfl
theorem op2_ins (op : Op2) (c m f : Nat) (ds es : List D) (μ : Store) (h1 : dunder P op = some m) (h2 : methOf P c m = some f) : op2 P cf b op (.ins c ds) (.ins c es) μ = noEx (cf b f [.ins c ds, .ins c es] μ) := by
  unfold op2
  simp only [Nat.beq_refl, if_true, h1, h2, Option.bind_some]
theorem methC_ins (m c f : Nat) (ds : List D) (μ : Store) (q : Store → R (List D)) (h : methOf P c m = some f) : methC P cf b m (.ins c ds) μ q = (q μ).bind fun vs μ2 => cf b f (.ins c ds :: vs) μ2 := by
  unfold methC; simp only [h]
theorem negC_ins (c f : Nat) (ds : List D) (μ : Store) (h : methOf P c P.nNeg = some f) : negC P cf b (.ins c ds) μ = noEx (cf b f [.ins c ds] μ) := by
  unfold negC; simp only [h]
theorem attrC_slot (m c i : Nat) (ds : List D) (μ : Store) (h : slotOf P c m = some i) : attrC P cf b m (.ins c ds) μ = ofO μ ds[i]? := by
  unfold attrC; simp only [h]
theorem attrC_prop (m c f : Nat) (ds : List D) (μ : Store) (h : slotOf P c m = none) (h2 : propOf P c m = some f) : attrC P cf b m (.ins c ds) μ = noEx (cf b f [.ins c ds] μ) := by
  unfold attrC; simp only [h, h2]
theorem cmp2_eqI (c f : Nat) (ds : List D) (y : D) (μ : Store) (h : methOf P c P.nEq = some f) (hr : rightOk P y = true) : cmp2 P cf b .eq (.ins c ds) y μ = blR (cf b f [.ins c ds, y] μ) := by
  unfold cmp2 cmpO; simp only [h, hr, if_true]
theorem cmp2_neI (c f : Nat) (ds : List D) (y : D) (μ : Store) (h : methOf P c P.nEq = some f) (hr : rightOk P y = true) : cmp2 P cf b .ne (.ins c ds) y μ = notR (cf b f [.ins c ds, y] μ) := by
  unfold cmp2 cmpO; simp only [h, hr, if_true]
@[simp] theorem idxC_tup (ds : List D) (k : Int) (μ : Store) : idxC (.tup ds) (.int k) μ = ofO μ ((ix ds.length k).bind fun j => ds[j]?) := rfl
@[simp] theorem idxC_lst (ds : List D) (k : Int) (μ : Store) : idxC (.lst ds) (.int k) μ = ofO μ ((ix ds.length k).bind fun j => ds[j]?) := rfl
end

@[simp] theorem st_get (μ : Store) (o : SO) : (μ ++ [o])[μ.length]? = some o := by simp
@[simp] theorem st_set (μ : Store) (o o' : SO) : (μ ++ [o]).set μ.length o' = μ ++ [o'] := by simp
theorem setF_eq (P : Prog) {b m j c i : Nat} {v : D} {e : Env} {μ : Store} {fs : List (Option D)} (hb : b ≤ j) (hj : μ[j]? = some (.obj c fs)) (hs : slotOf P c m = some i) (hi : i < fs.length) :
    setF P b m (.ref j) v e μ = .nx e (μ.set j (.obj c (fs.set i (some v)))) := by
  unfold setF
  simp only [Nat.ble_eq_true_of_le hb, if_true, hj, hs, Nat.blt_eq.mpr hi]
/-- a class whose __init__ is run -/
theorem new_eq (P : Prog) {cf : Nat → Call} {c : Nat} {k : Cls} {as ds : List D} {μ : Store} {fs : List (Option D)} (hk : P.clss[c]? = some k)
    (hi : cf μ.length k.init (.ref μ.length :: as) (μ ++ [.obj c (List.replicate k.slots.length none)]) = .ok .non (μ ++ [.obj c fs])) (ha : allSome fs = some ds) (hn : ds.isEmpty = false) (hl : D.ltL μ.length ds = true) :
    new P cf c as μ = .ok (.ins c ds) μ := by
  unfold new
  simp only [hk, hi, st_get, ha, Nat.beq_refl, hn, Bool.not_false, Bool.and_true, if_true, List.length_append, List.length_singleton, hl]

@[simp] theorem bif_okR {α : Type} (c : Bool) (x y : α) (μ : Store) : (bif c then (R.ok x μ : R α) else R.ok y μ) = R.ok (bif c then x else y) μ := by cases c <;> rfl
@[simp] theorem bind_bif {α β : Type} (c : Bool) (p q : R α) (f : α → Store → R β) : (bif c then p else q).bind f = bif c then p.bind f else q.bind f := by cases c <;> rfl
@[simp] theorem go_bif {α : Type} (c : Bool) (p q : R α) (e : Env) (f : α → Store → SR) : (bif c then p else q).go e f = bif c then p.go e f else q.go e f := by cases c <;> rfl
@[simp] theorem then_bif (c : Bool) (p q : SR) (f : Env → Store → SR) : (bif c then p else q).then f = bif c then p.then f else q.then f := by cases c <;> rfl
@[simp] theorem back_bif (c : Bool) (p q : SR) (b : Bool) (μ : Store) : (bif c then p else q).back b μ = bif c then p.back b μ else q.back b μ := by cases c <;> rfl
@[simp] theorem bif_int (c : Bool) (i j : Int) : (bif c then D.int i else D.int j) = D.int (bif c then i else j) := by cases c <;> rfl
@[simp] theorem bif_bl (c : Bool) (i j : Bool) : (bif c then D.bl i else D.bl j) = D.bl (bif c then i else j) := by cases c <;> rfl
section
variable (P : Prog) (cf : Nat → Call) (b : Nat)
@[simp] theorem cmp2_eq_bl (x y : Bool) (μ : Store) : cmp2 P cf b .eq (.bl x) (.bl y) μ = .ok (.bl (x == y)) μ := by cases x <;> cases y <;> rfl
@[simp] theorem cmp2_ne_bl (x y : Bool) (μ : Store) : cmp2 P cf b .ne (.bl x) (.bl y) μ = .ok (.bl (x != y)) μ := by cases x <;> cases y <;> rfl
theorem deq_int2 (i j : Int) : PySem.PyData.eqv (.int i) (.int j) = decide (i = j) := by
  first | rfl | simp [PySem.PyData.eqv] | skip
end

/-! ### sizes of numbers -/
/-- |i| < 2^n -/
def Sz (n : Nat) (i : Int) : Prop := i.natAbs < 2 ^ n
theorem Sz.log {n : Nat} {i : Int} (h : Sz n i) (hn : 0 < n) : i.natAbs.log2 < n := by
  by_cases z : i.natAbs = 0
  · rw [z]; simpa using hn
  · exact (Nat.log2_lt z).mpr h
theorem Sz.mulOk {n m : Nat} {i j : Int} (h : Sz n i) (h2 : Sz m j) (hn : 0 < n) (hm : 0 < m) (hs : n + m ≤ 100000) : mulOk i j = true := by
  unfold MI.mulOk
  have := h.log hn
  have := h2.log hm
  exact Nat.blt_eq.mpr (by omega)
theorem Sz.add {n : Nat} {i j : Int} (h : Sz n i) (h2 : Sz n j) : Sz (n + 1) (i + j) := by
  unfold Sz at *
  have := Int.natAbs_add_le i j
  rw [Nat.pow_succ]; omega
theorem Sz.neg {n : Nat} {i : Int} (h : Sz n i) : Sz n (-i) := by unfold Sz at *; rw [Int.natAbs_neg]; exact h
theorem Sz.sub {n : Nat} {i j : Int} (h : Sz n i) (h2 : Sz n j) : Sz (n + 1) (i - j) := by
  rw [Int.sub_eq_add_neg]; exact h.add h2.neg
theorem Sz.mul {n m : Nat} {i j : Int} (h : Sz n i) (h2 : Sz m j) : Sz (n + m) (i * j) := by
  unfold Sz at *
  rw [Int.natAbs_mul, Nat.pow_add]
  exact Nat.mul_lt_mul'' h h2
theorem Sz.mono {n m : Nat} {i : Int} (h : Sz n i) (hm : n ≤ m) : Sz m i := Nat.lt_of_lt_of_le h (Nat.pow_le_pow_right (by decide) hm)
end MI

set_option maxRecDepth 100000
set_option maxHeartbeats 4000000
namespace K01
open MI
def top (i : Nat) : PySem.Stmt := PySem.Challenge.pw_underwords_k01_whole_golds_reckoned_and.main.body.getD i (.Pass ⟨0, 0, 0, 0⟩)
def inC (s : PySem.Stmt) (j : Nat) : PySem.Stmt := match s with
  | .ClassDef _ _ _ b _ _ _ _ _ _ _ => b.getD j (.Pass ⟨0, 0, 0, 0⟩)
  | _ => .Pass ⟨0, 0, 0, 0⟩
/-- 0: law -/
def d0 : Def := ⟨1, 9, false, [], [
  .forR 1 (.bcall .max [(.lit (.int 1)), (.bcall .min [(.lit (.int 4)), (.bcall .len [(.var 0)])])]) [.asg 2 (.call 1 [(.var 0), (.var 1)]), .forR 3 (.lit (.int 3)) [.par 4 5 (.tup [(.call 2 [(.var 2)]), (.call 2 [(.var 2)])]) (.tup [(.call 2 [(.var 2)]), (.call 2 [(.var 2)])]), .asg 6 (.ite (.val (.cmp .lt (.bin .add (.bcall .abs [(.idx (.var 4) (.lit (.int 0)))]) (.bcall .abs [(.idx (.var 4) (.lit (.int 1)))])) (.bin .pow (.lit (.int 10)) (.lit (.int 40))))) (.call 3 [(.var 2), (.var 4)]) (.var 5)), .ifs (.or [(.not (.val (.call 4 [(.var 4), (.var 5), (.var 6)]))), (.not (.val (.call 5 [(.var 4), (.var 5), (.var 6)])))]) [.ret (.lit (.bl false))] [], .ifs (.or [(.not (.val (.call 5 [(.var 4), (.var 6), (.var 5)]))), (.not (.val (.call 5 [(.var 6), (.var 5), (.var 4)])))]) [.ret (.lit (.bl false))] []]],
  .asg 7 (.new 0 [(.lit (.int 0)), (.lit (.int 1))]),
  .ifs (.or [(.val (.cmp .ne (.bin .mul (.var 7) (.var 7)) (.bin .add (.var 7) (.new 0 [(.lit (.int 1))])))), (.not (.val (.meth 11 (.new 0 [(.lit (.int 1))]) [(.var 7)]))), (.not (.val (.meth 11 (.var 7) [(.new 0 [(.lit (.int 2))])])))]) [.ret (.lit (.bl false))] [],
  .asg 8 (.lst false [(.attr 10 (.new 0 [(.lit (.int 13)), (.neg (.lit (.int 8)))])), (.attr 10 (.new 0 [(.neg (.lit (.int 21))), (.lit (.int 13))])), (.meth 11 (.new 0 [(.lit (.int 55)), (.neg (.lit (.int 34)))]) [(.new 0 [(.lit (.int 0))])]), (.attr 10 (.new 0 [(.neg (.lit (.int 1))), (.lit (.int 1))]))]),
  .ret (.cmp .eq (.var 8) (.lst false [(.lit (.int 1)), (.lit (.int 1)), (.lit (.bl true)), (.lit (.int 1))]))
]⟩
/-- 1: _law_basin -/
def d1 : Def := ⟨2, 5, true, [], [
  .asg 2 (.ite (.val (.cmp .lt (.var 1) (.bcall .len [(.var 0)]))) (.bcall .int [(.idx (.var 0) (.var 1))]) (.bin .add (.bin .mul (.lit (.int 73)) (.var 1)) (.lit (.int 29)))),
  .asg 3 (.bin .mod (.bcall .int [(.bcall .abs [(.var 2)])]) (.bin .pow (.bin .pow (.lit (.int 10)) (.lit (.int 57))) (.lit (.int 8)))),
  .asg 4 (.bin .add (.bin .add (.bin .add (.bin .mul (.bin .mod (.bcall .int [(.var 3)]) (.lit (.int 1152921504606846869))) (.lit (.int 70271))) (.bin .mul (.lit (.int 6781)) (.var 1))) (.bin .mul (.lit (.int 53)) (.bcall .int [(.cmp .lt (.var 2) (.lit (.int 0)))]))) (.lit (.int 23))),
  .ret (.lst true [(.bcall .max [(.lit (.int 0)), (.bin .add (.bin .sub (.var 3) (.bin .pow (.lit (.int 10)) (.lit (.int 17)))) (.lit (.int 1)))]), (.bin .mod (.bcall .int [(.var 4)]) (.lit (.int 2305843009213693951))), (.lit (.int 0))])
]⟩
/-- 2: _law_number -/
def d2 : Def := ⟨1, 2, false, [], [
  .asg 1 (.call 19 [(.var 0), (.lst false [(.lit (.int 2)), (.lit (.int 3)), (.lit (.int 9)), (.lit (.int 40)), (.bin .pow (.lit (.int 10)) (.lit (.int 12))), (.bin .pow (.lit (.int 10)) (.lit (.int 59)))])]),
  .ret (.bin .sub (.call 20 [(.var 0), (.bin .add (.bin .mul (.lit (.int 2)) (.var 1)) (.lit (.int 1)))]) (.var 1))
]⟩
/-- 3: _law_near_gold -/
def d3 : Def := ⟨2, 6, false, [], [
  .unp (.tup [(.name 2), (.name 3)]) (.tup [(.lit (.int 1)), (.lit (.int 1))]),
  .forR 4 (.call 20 [(.var 0), (.lit (.int 40))]) [.par 2 3 (.var 3) (.bin .add (.var 2) (.var 3))],
  .asg 5 (.call 19 [(.var 0), (.lst false [(.lit (.int 1)), (.neg (.lit (.int 1)))])]),
  .ret (.tup [(.bin .add (.idx (.var 1) (.lit (.int 0))) (.bin .mul (.var 5) (.var 3))), (.bin .sub (.idx (.var 1) (.lit (.int 1))) (.bin .mul (.var 5) (.var 2)))])
]⟩
/-- 4: _law_ops_right -/
def d4 : Def := ⟨3, 6, true, [], [
  .par3 3 4 5 (.new 0 [(.idx (.var 0) (.lit (.int 0))), (.idx (.var 0) (.lit (.int 1)))]) (.new 0 [(.idx (.var 1) (.lit (.int 0))), (.idx (.var 1) (.lit (.int 1)))]) (.new 0 [(.idx (.var 2) (.lit (.int 0))), (.idx (.var 2) (.lit (.int 1)))]),
  .ifs (.not (.val (.call 21 [(.bin .add (.var 3) (.var 4)), (.tup [(.bin .add (.idx (.var 0) (.lit (.int 0))) (.idx (.var 1) (.lit (.int 0)))), (.bin .add (.idx (.var 0) (.lit (.int 1))) (.idx (.var 1) (.lit (.int 1))))])]))) [.ret (.lit (.bl false))] [],
  .ifs (.not (.val (.call 21 [(.bin .sub (.var 3) (.var 4)), (.tup [(.bin .sub (.idx (.var 0) (.lit (.int 0))) (.idx (.var 1) (.lit (.int 0)))), (.bin .sub (.idx (.var 0) (.lit (.int 1))) (.idx (.var 1) (.lit (.int 1))))])]))) [.ret (.lit (.bl false))] [],
  .ifs (.or [(.not (.val (.call 21 [(.bin .mul (.var 3) (.var 4)), (.call 22 [(.var 0), (.var 1)])]))), (.not (.val (.call 21 [(.neg (.var 3)), (.tup [(.bin .sub (.lit (.int 0)) (.idx (.var 0) (.lit (.int 0)))), (.bin .sub (.lit (.int 0)) (.idx (.var 0) (.lit (.int 1))))])])))]) [.ret (.lit (.bl false))] [],
  .ifs (.or [(.val (.cmp .ne (.bin .mul (.bin .add (.var 3) (.var 4)) (.var 5)) (.bin .add (.bin .mul (.var 3) (.var 5)) (.bin .mul (.var 4) (.var 5))))), (.val (.cmp .ne (.bin .mul (.var 3) (.bin .mul (.var 4) (.var 5))) (.bin .mul (.bin .mul (.var 3) (.var 4)) (.var 5))))]) [.ret (.lit (.bl false))] [],
  .ifs (.or [(.val (.cmp .ne (.attr 9 (.bin .mul (.var 3) (.var 4))) (.bin .mul (.attr 9 (.var 3)) (.attr 9 (.var 4))))), (.val (.cmp .ne (.attr 9 (.neg (.var 3))) (.attr 9 (.var 3)))), (.val (.cmp .ne (.bin .sub (.var 3) (.var 3)) (.new 0 [(.lit (.int 0))])))]) [.ret (.lit (.bl false))] [],
  .ret (.and [(.cmp .eq (.attr 10 (.bin .mul (.var 3) (.var 4))) (.bin .mul (.attr 10 (.var 3)) (.attr 10 (.var 4)))), (.cmp .eq (.bin .mul (.bin .mul (.var 3) (.new 0 [(.lit (.int 0)), (.lit (.int 1))])) (.new 0 [(.lit (.int 0)), (.lit (.int 1))])) (.bin .add (.bin .mul (.var 3) (.new 0 [(.lit (.int 0)), (.lit (.int 1))])) (.var 3)))])
]⟩
/-- 5: _law_order_right -/
def d5 : Def := ⟨3, 9, true, [], [
  .par3 3 4 5 (.new 0 [(.idx (.var 0) (.lit (.int 0))), (.idx (.var 0) (.lit (.int 1)))]) (.new 0 [(.idx (.var 1) (.lit (.int 0))), (.idx (.var 1) (.lit (.int 1)))]) (.new 0 [(.idx (.var 2) (.lit (.int 0))), (.idx (.var 2) (.lit (.int 1)))]),
  .asg 6 (.call 23 [(.bin .sub (.idx (.var 1) (.lit (.int 0))) (.idx (.var 0) (.lit (.int 0)))), (.bin .sub (.idx (.var 1) (.lit (.int 1))) (.idx (.var 0) (.lit (.int 1))))]),
  .asg 7 (.cmp .gt (.var 6) (.lit (.int 0))),
  .ifs (.or [(.val (.cmp .ne (.meth 11 (.var 3) [(.var 4)]) (.var 7))), (.val (.cmp .ne (.attr 10 (.bin .sub (.var 4) (.var 3))) (.var 6)))]) [.ret (.lit (.bl false))] [],
  .ifs (.or [(.val (.cmp .ne (.bmeth .count (.lst false [(.meth 11 (.var 3) [(.var 4)]), (.meth 11 (.var 4) [(.var 3)]), (.cmp .eq (.var 3) (.var 4))]) [(.lit (.bl true))]) (.lit (.int 1)))), (.val (.meth 11 (.var 3) [(.var 3)]))]) [.ret (.lit (.bl false))] [],
  .ifs (.or [(.val (.cmp .ne (.meth 11 (.bin .add (.var 3) (.var 5)) [(.bin .add (.var 4) (.var 5))]) (.var 7))), (.val (.cmp .ne (.meth 11 (.neg (.var 4)) [(.neg (.var 3))]) (.var 7)))]) [.ret (.lit (.bl false))] [],
  .asg 8 (.bin .mul (.var 5) (.var 5)),
  .ret (.cmp .eq (.meth 11 (.bin .mul (.var 3) (.var 8)) [(.bin .mul (.var 4) (.var 8))]) (.and [(.var 7), (.bcall .bool [(.var 5)])]))
]⟩
/-- 6: Gold.__init__ -/
def d6 : Def := ⟨3, 4, false, [(.int 0)], [
  .asg 3 (.call 24 [(.var 1), (.var 2)]),
  .asgA 14 (.var 0) (.idx (.var 3) (.lit (.int 0))),
  .asgA 13 (.var 0) (.idx (.var 3) (.lit (.int 1)))
]⟩
/-- 7: Gold.whole -/
def d7 : Def := ⟨1, 1, true, [], [
  .ret (.attr 14 (.var 0))
]⟩
/-- 8: Gold.part -/
def d8 : Def := ⟨1, 1, true, [], [
  .ret (.attr 13 (.var 0))
]⟩
/-- 9: Gold.norm -/
def d9 : Def := ⟨1, 1, true, [], [
  .ret (.bin .sub (.bin .add (.bin .mul (.attr 14 (.var 0)) (.attr 14 (.var 0))) (.bin .mul (.attr 14 (.var 0)) (.attr 13 (.var 0)))) (.bin .mul (.attr 13 (.var 0)) (.attr 13 (.var 0))))
]⟩
/-- 10: Gold.sense -/
def d10 : Def := ⟨1, 1, true, [], [
  .ret (.call 25 [(.attr 14 (.var 0)), (.attr 13 (.var 0))])
]⟩
/-- 11: Gold.__add__ -/
def d11 : Def := ⟨2, 2, true, [], [
  .ifs (.not (.val (.bcall .isi [(.var 1), (.clv 0)]))) [.ret .no] [],
  .ret (.call 26 [(.bin .add (.attr 14 (.var 0)) (.attr 14 (.var 1))), (.bin .add (.attr 13 (.var 0)) (.attr 13 (.var 1)))])
]⟩
/-- 12: Gold.__sub__ -/
def d12 : Def := ⟨2, 2, true, [], [
  .ifs (.not (.val (.bcall .isi [(.var 1), (.clv 0)]))) [.ret .no] [],
  .ret (.call 26 [(.bin .sub (.attr 14 (.var 0)) (.attr 14 (.var 1))), (.bin .sub (.attr 13 (.var 0)) (.attr 13 (.var 1)))])
]⟩
/-- 13: Gold.__mul__ -/
def d13 : Def := ⟨2, 4, true, [], [
  .ifs (.not (.val (.bcall .isi [(.var 1), (.clv 0)]))) [.ret .no] [],
  .asg 2 (.bin .mul (.attr 13 (.var 0)) (.attr 13 (.var 1))),
  .asg 3 (.bin .add (.bin .mul (.attr 14 (.var 0)) (.attr 14 (.var 1))) (.var 2)),
  .ret (.call 26 [(.var 3), (.bin .add (.bin .add (.bin .mul (.attr 14 (.var 0)) (.attr 13 (.var 1))) (.bin .mul (.attr 13 (.var 0)) (.attr 14 (.var 1)))) (.var 2))])
]⟩
/-- 14: Gold.__neg__ -/
def d14 : Def := ⟨1, 1, true, [], [
  .ret (.call 26 [(.neg (.attr 14 (.var 0))), (.neg (.attr 13 (.var 0)))])
]⟩
/-- 15: Gold.is_less -/
def d15 : Def := ⟨2, 2, true, [], [
  .ifs (.not (.val (.bcall .isi [(.var 1), (.clv 0)]))) [.no] [],
  .ret (.cmp .lt (.call 25 [(.bin .sub (.attr 14 (.var 0)) (.attr 14 (.var 1))), (.bin .sub (.attr 13 (.var 0)) (.attr 13 (.var 1)))]) (.lit (.int 0)))
]⟩
/-- 16: Gold.__eq__ -/
def d16 : Def := ⟨2, 2, true, [], [
  .ret (.and [(.bcall .isi [(.var 1), (.clv 0)]), (.cmp .eq (.attr 14 (.var 0)) (.attr 14 (.var 1))), (.cmp .eq (.attr 13 (.var 0)) (.attr 13 (.var 1)))])
]⟩
/-- 17: Gold.__bool__ -/
def d17 : Def := ⟨1, 1, true, [], [
  .ret (.bcall .bool [(.or [(.cmp .ne (.attr 14 (.var 0)) (.lit (.int 0))), (.cmp .ne (.attr 13 (.var 0)) (.lit (.int 0)))])])
]⟩
/-- 18: Gold.__str__ -/
def d18 : Def := ⟨1, 1, true, [], [
  .ret .no
]⟩
/-- 19: _law_one_of -/
def d19 : Def := ⟨2, 2, false, [], [
  .ret (.idx (.var 1) (.call 20 [(.var 0), (.bcall .len [(.var 1)])]))
]⟩
/-- 20: _law_scoop -/
def d20 : Def := ⟨2, 5, false, [], [
  .ifs (.val (.cmp .gt (.idx (.var 0) (.lit (.int 0))) (.lit (.int 0)))) [.asg 2 (.bin .mod (.bcall .int [(.idx (.var 0) (.lit (.int 0)))]) (.var 1)), .asgS (.var 0) (.lit (.int 0)) (.bin .fdiv (.idx (.var 0) (.lit (.int 0))) (.var 1)), .ret (.var 2)] [],
  .asgS (.var 0) (.lit (.int 2)) (.bin .add (.idx (.var 0) (.lit (.int 2))) (.lit (.int 1))),
  .asg 3 (.bin .mod (.bcall .int [(.bin .add (.idx (.var 0) (.lit (.int 1))) (.bin .mul (.lit (.int 1000171)) (.idx (.var 0) (.lit (.int 2)))))]) (.lit (.int 2305843009213693951))),
  .asg 4 (.bin .add (.bin .mul (.bin .mod (.bcall .int [(.bin .mul (.var 3) (.var 3))]) (.lit (.int 2305843009213693907))) (.var 3)) (.bin .mul (.lit (.int 7307)) (.idx (.var 0) (.lit (.int 2))))),
  .ret (.bin .mod (.bcall .int [(.bin .fdiv (.bin .mod (.bcall .int [(.var 4)]) (.lit (.int 2305843009213693921))) (.lit (.int 8192)))]) (.var 1))
]⟩
/-- 21: _law_is_pair -/
def d21 : Def := ⟨2, 2, true, [], [
  .ret (.cmp .eq (.tup [(.attr 7 (.var 0)), (.attr 8 (.var 0))]) (.var 1))
]⟩
/-- 22: _law_product -/
def d22 : Def := ⟨2, 3, true, [], [
  .asg 2 (.bin .mul (.idx (.var 0) (.lit (.int 1))) (.idx (.var 1) (.lit (.int 1)))),
  .ret (.tup [(.bin .add (.bin .mul (.idx (.var 0) (.lit (.int 0))) (.idx (.var 1) (.lit (.int 0)))) (.var 2)), (.bin .add (.bin .add (.bin .mul (.idx (.var 0) (.lit (.int 0))) (.idx (.var 1) (.lit (.int 1)))) (.bin .mul (.idx (.var 0) (.lit (.int 1))) (.idx (.var 1) (.lit (.int 0))))) (.var 2))])
]⟩
/-- 23: _law_gold_sense -/
def d23 : Def := ⟨2, 4, true, [], [
  .par 2 3 (.bin .add (.bin .mul (.lit (.int 2)) (.var 0)) (.var 1)) (.call 27 [(.bin .mul (.bin .mul (.lit (.int 5)) (.var 1)) (.var 1))]),
  .ifs (.val (.cmp .eq (.var 1) (.lit (.int 0)))) [.ret (.bin .sub (.bcall .int [(.cmp .gt (.var 0) (.lit (.int 0)))]) (.bcall .int [(.cmp .lt (.var 0) (.lit (.int 0)))]))] [],
  .ifs (.val (.cmp .gt (.var 1) (.lit (.int 0)))) [.ret (.ite (.val (.cmp .ge (.var 2) (.bin .sub (.lit (.int 0)) (.var 3)))) (.lit (.int 1)) (.neg (.lit (.int 1))))] [],
  .ret (.ite (.val (.cmp .gt (.var 2) (.var 3))) (.lit (.int 1)) (.neg (.lit (.int 1))))
]⟩
/-- 24: numbers_told -/
def d24 : Def := ⟨2, 2, true, [], [
  .ifs (.val (.bcall .isi [(.var 0), (.clv 1)])) [.ret (.attr 15 (.var 0))] [],
  .expr (.call 29 [(.var 0)]),
  .expr (.call 29 [(.var 1)]),
  .ret (.tup [(.var 0), (.var 1)])
]⟩
/-- 25: sense_in -/
def d25 : Def := ⟨2, 4, true, [], [
  .asg 2 (.bin .add (.bin .mul (.lit (.int 2)) (.var 0)) (.var 1)),
  .ifs (.and [(.val (.cmp .eq (.var 2) (.lit (.int 0)))), (.val (.cmp .eq (.var 1) (.lit (.int 0))))]) [.ret (.lit (.int 0))] [],
  .ifs (.and [(.val (.cmp .ge (.var 2) (.lit (.int 0)))), (.val (.cmp .ge (.var 1) (.lit (.int 0))))]) [.ret (.lit (.int 1))] [],
  .ifs (.and [(.val (.cmp .le (.var 2) (.lit (.int 0)))), (.val (.cmp .le (.var 1) (.lit (.int 0))))]) [.ret (.neg (.lit (.int 1)))] [],
  .asg 3 (.cmp .gt (.bin .mul (.var 2) (.var 2)) (.bin .mul (.bin .mul (.lit (.int 5)) (.var 1)) (.var 1))),
  .ret (.ite (.val (.cmp .eq (.cmp .gt (.var 2) (.lit (.int 0))) (.var 3))) (.lit (.int 1)) (.neg (.lit (.int 1))))
]⟩
/-- 26: made_gold -/
def d26 : Def := ⟨2, 2, true, [], [
  .ret (.new 0 [(.new 1 [(.var 0), (.var 1)])])
]⟩
/-- 27: _law_root_below -/
def d27 : Def := ⟨1, 3, true, [], [
  .ifs (.val (.cmp .eq (.var 0) (.lit (.int 0)))) [.ret (.lit (.int 0))] [],
  .asg 1 (.lit (.int 1)),
  .whl (.val (.cmp .le (.bin .mul (.var 1) (.var 1)) (.var 0))) [.asg 1 (.bin .mul (.var 1) (.lit (.int 2)))],
  .asg 2 (.var 1),
  .asg 1 (.lit (.int 0)),
  .whl (.val (.cmp .gt (.var 2) (.lit (.int 0)))) [.ifs (.val (.cmp .le (.bin .mul (.bin .add (.var 1) (.var 2)) (.bin .add (.var 1) (.var 2))) (.var 0))) [.asg 1 (.bin .add (.var 1) (.var 2))] [], .asg 2 (.bin .fdiv (.var 2) (.lit (.int 2)))],
  .ret (.var 1)
]⟩
/-- 28: KeptNumbers.__init__ -/
def d28 : Def := ⟨3, 3, false, [], [
  .asgA 15 (.var 0) (.tup [(.var 1), (.var 2)])
]⟩
/-- 29: require_integer -/
def d29 : Def := ⟨1, 1, true, [], [
  .ifs (.not (.val (.call 30 [(.var 0)]))) [.no] []
]⟩
/-- 30: is_integer -/
def d30 : Def := ⟨1, 1, true, [], [
  .ret (.and [(.call 31 [(.var 0)]), (.cmp .lt (.bcall .abs [(.var 0)]) (.gl 0))])
]⟩
/-- 31: is_whole -/
def d31 : Def := ⟨1, 1, true, [], [
  .ret (.and [(.bcall .isi [(.var 0), (.tyv "int")]), (.not (.bcall .isi [(.var 0), (.tyv "bool")]))])
]⟩
def glo : List D := [(.int 1000000000000000000000000000000000000000000000000000000000000)]
def clss : List Cls := [⟨[13, 14], 6, [(0, 11), (1, 12), (2, 13), (3, 14), (11, 15), (4, 16), (5, 17), (12, 18)], [(7, 7), (8, 8), (9, 9), (10, 10)]⟩, ⟨[15], 28, [], []⟩]
def P : Prog := ⟨4000, [d0, d1, d2, d3, d4, d5, d6, d7, d8, d9, d10, d11, d12, d13, d14, d15, d16, d17, d18, d19, d20, d21, d22, d23, d24, d25, d26, d27, d28, d29, d30, d31], clss, glo, 0, 1, 2, 3, 4, 5⟩
def G : MS.Gn where
  fn := [some (PySem.Str.ofString "law"), some (PySem.Str.ofString "_law_basin"), some (PySem.Str.ofString "_law_number"), some (PySem.Str.ofString "_law_near_gold"), some (PySem.Str.ofString "_law_ops_right"), some (PySem.Str.ofString "_law_order_right"), none, none, none, none, none, none, none, none, none, none, none, none, none, some (PySem.Str.ofString "_law_one_of"), some (PySem.Str.ofString "_law_scoop"), some (PySem.Str.ofString "_law_is_pair"), some (PySem.Str.ofString "_law_product"), some (PySem.Str.ofString "_law_gold_sense"), some (PySem.Str.ofString "numbers_told"), some (PySem.Str.ofString "sense_in"), some (PySem.Str.ofString "made_gold"), some (PySem.Str.ofString "_law_root_below"), none, some (PySem.Str.ofString "require_integer"), some (PySem.Str.ofString "is_integer"), some (PySem.Str.ofString "is_whole")]
  cl := [PySem.Str.ofString "Gold", PySem.Str.ofString "KeptNumbers"]
  gl := [PySem.Str.ofString "SIXTY_DIGITS"]
  at_ := [PySem.Str.ofString "__add__", PySem.Str.ofString "__sub__", PySem.Str.ofString "__mul__", PySem.Str.ofString "__neg__", PySem.Str.ofString "__eq__", PySem.Str.ofString "__bool__", PySem.Str.ofString "__init__", PySem.Str.ofString "whole", PySem.Str.ofString "part", PySem.Str.ofString "norm", PySem.Str.ofString "sense", PySem.Str.ofString "is_less", PySem.Str.ofString "__str__", PySem.Str.ofString "own_part", PySem.Str.ofString "own_whole", PySem.Str.ofString "own_numbers"]
def m0 : MS.MDef := ⟨.glo (PySem.Str.ofString "law"), PySem.Str.ofString "law", PySem.Str.ofString "law", L2.defArgs (top 29), L2.defBody (top 29), L2.defScope (top 29), [PySem.Str.ofString "_law_script", PySem.Str.ofString "_law_at", PySem.Str.ofString "_law_basin_here", PySem.Str.ofString "_law_turn", PySem.Str.ofString "_law_first", PySem.Str.ofString "_law_second", PySem.Str.ofString "_law_third", PySem.Str.ofString "_law_golden", PySem.Str.ofString "_law_told"]⟩
def m1 : MS.MDef := ⟨.glo (PySem.Str.ofString "_law_basin"), PySem.Str.ofString "_law_basin", PySem.Str.ofString "_law_basin", L2.defArgs (top 18), L2.defBody (top 18), L2.defScope (top 18), [PySem.Str.ofString "_law_script", PySem.Str.ofString "_law_at", PySem.Str.ofString "_law_cell", PySem.Str.ofString "_law_great", PySem.Str.ofString "_law_mixed"]⟩
def m2 : MS.MDef := ⟨.glo (PySem.Str.ofString "_law_number"), PySem.Str.ofString "_law_number", PySem.Str.ofString "_law_number", L2.defArgs (top 21), L2.defBody (top 21), L2.defScope (top 21), [PySem.Str.ofString "_law_basin_here", PySem.Str.ofString "_law_most"]⟩
def m3 : MS.MDef := ⟨.glo (PySem.Str.ofString "_law_near_gold"), PySem.Str.ofString "_law_near_gold", PySem.Str.ofString "_law_near_gold", L2.defArgs (top 24), L2.defBody (top 24), L2.defScope (top 24), [PySem.Str.ofString "_law_basin_here", PySem.Str.ofString "_law_pair", PySem.Str.ofString "_law_low", PySem.Str.ofString "_law_high", PySem.Str.ofString "_law_turn", PySem.Str.ofString "_law_sign"]⟩
def m4 : MS.MDef := ⟨.glo (PySem.Str.ofString "_law_ops_right"), PySem.Str.ofString "_law_ops_right", PySem.Str.ofString "_law_ops_right", L2.defArgs (top 27), L2.defBody (top 27), L2.defScope (top 27), [PySem.Str.ofString "_law_first", PySem.Str.ofString "_law_second", PySem.Str.ofString "_law_third", PySem.Str.ofString "_law_one", PySem.Str.ofString "_law_other", PySem.Str.ofString "_law_more"]⟩
def m5 : MS.MDef := ⟨.glo (PySem.Str.ofString "_law_order_right"), PySem.Str.ofString "_law_order_right", PySem.Str.ofString "_law_order_right", L2.defArgs (top 28), L2.defBody (top 28), L2.defScope (top 28), [PySem.Str.ofString "_law_first", PySem.Str.ofString "_law_second", PySem.Str.ofString "_law_third", PySem.Str.ofString "_law_one", PySem.Str.ofString "_law_other", PySem.Str.ofString "_law_more", PySem.Str.ofString "_law_sense", PySem.Str.ofString "_law_less", PySem.Str.ofString "_law_square"]⟩
def m6 : MS.MDef := ⟨.meth (PySem.Str.ofString "Gold") (PySem.Str.ofString "__init__"), PySem.Str.ofString "__init__", PySem.Str.ofString "Gold.__init__", L2.defArgs (inC (top 15) 1), L2.defBody (inC (top 15) 1), L2.defScope (inC (top 15) 1), [PySem.Str.ofString "self", PySem.Str.ofString "whole", PySem.Str.ofString "part", PySem.Str.ofString "numbers"]⟩
def m7 : MS.MDef := ⟨.prop (PySem.Str.ofString "Gold") (PySem.Str.ofString "whole"), PySem.Str.ofString "whole", PySem.Str.ofString "Gold.whole", L2.defArgs (inC (top 15) 2), L2.defBody (inC (top 15) 2), L2.defScope (inC (top 15) 2), [PySem.Str.ofString "self"]⟩
def m8 : MS.MDef := ⟨.prop (PySem.Str.ofString "Gold") (PySem.Str.ofString "part"), PySem.Str.ofString "part", PySem.Str.ofString "Gold.part", L2.defArgs (inC (top 15) 3), L2.defBody (inC (top 15) 3), L2.defScope (inC (top 15) 3), [PySem.Str.ofString "self"]⟩
def m9 : MS.MDef := ⟨.prop (PySem.Str.ofString "Gold") (PySem.Str.ofString "norm"), PySem.Str.ofString "norm", PySem.Str.ofString "Gold.norm", L2.defArgs (inC (top 15) 4), L2.defBody (inC (top 15) 4), L2.defScope (inC (top 15) 4), [PySem.Str.ofString "self"]⟩
def m10 : MS.MDef := ⟨.prop (PySem.Str.ofString "Gold") (PySem.Str.ofString "sense"), PySem.Str.ofString "sense", PySem.Str.ofString "Gold.sense", L2.defArgs (inC (top 15) 5), L2.defBody (inC (top 15) 5), L2.defScope (inC (top 15) 5), [PySem.Str.ofString "self"]⟩
def m11 : MS.MDef := ⟨.meth (PySem.Str.ofString "Gold") (PySem.Str.ofString "__add__"), PySem.Str.ofString "__add__", PySem.Str.ofString "Gold.__add__", L2.defArgs (inC (top 15) 6), L2.defBody (inC (top 15) 6), L2.defScope (inC (top 15) 6), [PySem.Str.ofString "self", PySem.Str.ofString "other"]⟩
def m12 : MS.MDef := ⟨.meth (PySem.Str.ofString "Gold") (PySem.Str.ofString "__sub__"), PySem.Str.ofString "__sub__", PySem.Str.ofString "Gold.__sub__", L2.defArgs (inC (top 15) 7), L2.defBody (inC (top 15) 7), L2.defScope (inC (top 15) 7), [PySem.Str.ofString "self", PySem.Str.ofString "other"]⟩
def m13 : MS.MDef := ⟨.meth (PySem.Str.ofString "Gold") (PySem.Str.ofString "__mul__"), PySem.Str.ofString "__mul__", PySem.Str.ofString "Gold.__mul__", L2.defArgs (inC (top 15) 8), L2.defBody (inC (top 15) 8), L2.defScope (inC (top 15) 8), [PySem.Str.ofString "self", PySem.Str.ofString "other", PySem.Str.ofString "both", PySem.Str.ofString "whole"]⟩
def m14 : MS.MDef := ⟨.meth (PySem.Str.ofString "Gold") (PySem.Str.ofString "__neg__"), PySem.Str.ofString "__neg__", PySem.Str.ofString "Gold.__neg__", L2.defArgs (inC (top 15) 9), L2.defBody (inC (top 15) 9), L2.defScope (inC (top 15) 9), [PySem.Str.ofString "self"]⟩
def m15 : MS.MDef := ⟨.meth (PySem.Str.ofString "Gold") (PySem.Str.ofString "is_less"), PySem.Str.ofString "is_less", PySem.Str.ofString "Gold.is_less", L2.defArgs (inC (top 15) 10), L2.defBody (inC (top 15) 10), L2.defScope (inC (top 15) 10), [PySem.Str.ofString "self", PySem.Str.ofString "other"]⟩
def m16 : MS.MDef := ⟨.meth (PySem.Str.ofString "Gold") (PySem.Str.ofString "__eq__"), PySem.Str.ofString "__eq__", PySem.Str.ofString "Gold.__eq__", L2.defArgs (inC (top 15) 11), L2.defBody (inC (top 15) 11), L2.defScope (inC (top 15) 11), [PySem.Str.ofString "self", PySem.Str.ofString "other"]⟩
def m17 : MS.MDef := ⟨.meth (PySem.Str.ofString "Gold") (PySem.Str.ofString "__bool__"), PySem.Str.ofString "__bool__", PySem.Str.ofString "Gold.__bool__", L2.defArgs (inC (top 15) 12), L2.defBody (inC (top 15) 12), L2.defScope (inC (top 15) 12), [PySem.Str.ofString "self"]⟩
def m18 : MS.MDef := ⟨.meth (PySem.Str.ofString "Gold") (PySem.Str.ofString "__str__"), PySem.Str.ofString "__str__", PySem.Str.ofString "Gold.__str__", L2.defArgs (inC (top 15) 13), L2.defBody (inC (top 15) 13), L2.defScope (inC (top 15) 13), [PySem.Str.ofString "self"]⟩
def m19 : MS.MDef := ⟨.glo (PySem.Str.ofString "_law_one_of"), PySem.Str.ofString "_law_one_of", PySem.Str.ofString "_law_one_of", L2.defArgs (top 20), L2.defBody (top 20), L2.defScope (top 20), [PySem.Str.ofString "_law_basin_here", PySem.Str.ofString "_law_items"]⟩
def m20 : MS.MDef := ⟨.glo (PySem.Str.ofString "_law_scoop"), PySem.Str.ofString "_law_scoop", PySem.Str.ofString "_law_scoop", L2.defArgs (top 19), L2.defBody (top 19), L2.defScope (top 19), [PySem.Str.ofString "_law_basin_here", PySem.Str.ofString "_law_total", PySem.Str.ofString "_law_found", PySem.Str.ofString "_law_one", PySem.Str.ofString "_law_two"]⟩
def m21 : MS.MDef := ⟨.glo (PySem.Str.ofString "_law_is_pair"), PySem.Str.ofString "_law_is_pair", PySem.Str.ofString "_law_is_pair", L2.defArgs (top 26), L2.defBody (top 26), L2.defScope (top 26), [PySem.Str.ofString "_law_gold", PySem.Str.ofString "_law_pair"]⟩
def m22 : MS.MDef := ⟨.glo (PySem.Str.ofString "_law_product"), PySem.Str.ofString "_law_product", PySem.Str.ofString "_law_product", L2.defArgs (top 25), L2.defBody (top 25), L2.defScope (top 25), [PySem.Str.ofString "_law_one", PySem.Str.ofString "_law_other", PySem.Str.ofString "_law_both"]⟩
def m23 : MS.MDef := ⟨.glo (PySem.Str.ofString "_law_gold_sense"), PySem.Str.ofString "_law_gold_sense", PySem.Str.ofString "_law_gold_sense", L2.defArgs (top 23), L2.defBody (top 23), L2.defScope (top 23), [PySem.Str.ofString "_law_whole", PySem.Str.ofString "_law_part", PySem.Str.ofString "_law_double", PySem.Str.ofString "_law_low"]⟩
def m24 : MS.MDef := ⟨.glo (PySem.Str.ofString "numbers_told"), PySem.Str.ofString "numbers_told", PySem.Str.ofString "numbers_told", L2.defArgs (top 14), L2.defBody (top 14), L2.defScope (top 14), [PySem.Str.ofString "whole", PySem.Str.ofString "part"]⟩
def m25 : MS.MDef := ⟨.glo (PySem.Str.ofString "sense_in"), PySem.Str.ofString "sense_in", PySem.Str.ofString "sense_in", L2.defArgs (top 10), L2.defBody (top 10), L2.defScope (top 10), [PySem.Str.ofString "whole", PySem.Str.ofString "part", PySem.Str.ofString "twice", PySem.Str.ofString "is_twice_greater"]⟩
def m26 : MS.MDef := ⟨.glo (PySem.Str.ofString "made_gold"), PySem.Str.ofString "made_gold", PySem.Str.ofString "made_gold", L2.defArgs (top 16), L2.defBody (top 16), L2.defScope (top 16), [PySem.Str.ofString "whole", PySem.Str.ofString "part"]⟩
def m27 : MS.MDef := ⟨.glo (PySem.Str.ofString "_law_root_below"), PySem.Str.ofString "_law_root_below", PySem.Str.ofString "_law_root_below", L2.defArgs (top 22), L2.defBody (top 22), L2.defScope (top 22), [PySem.Str.ofString "_law_number_here", PySem.Str.ofString "_law_found", PySem.Str.ofString "_law_step"]⟩
def m28 : MS.MDef := ⟨.meth (PySem.Str.ofString "KeptNumbers") (PySem.Str.ofString "__init__"), PySem.Str.ofString "__init__", PySem.Str.ofString "KeptNumbers.__init__", L2.defArgs (inC (top 13) 1), L2.defBody (inC (top 13) 1), L2.defScope (inC (top 13) 1), [PySem.Str.ofString "self", PySem.Str.ofString "whole", PySem.Str.ofString "part"]⟩
def m29 : MS.MDef := ⟨.glo (PySem.Str.ofString "require_integer"), PySem.Str.ofString "require_integer", PySem.Str.ofString "require_integer", L2.defArgs (top 8), L2.defBody (top 8), L2.defScope (top 8), [PySem.Str.ofString "value"]⟩
def m30 : MS.MDef := ⟨.glo (PySem.Str.ofString "is_integer"), PySem.Str.ofString "is_integer", PySem.Str.ofString "is_integer", L2.defArgs (top 7), L2.defBody (top 7), L2.defScope (top 7), [PySem.Str.ofString "value"]⟩
def m31 : MS.MDef := ⟨.glo (PySem.Str.ofString "is_whole"), PySem.Str.ofString "is_whole", PySem.Str.ofString "is_whole", L2.defArgs (top 6), L2.defBody (top 6), L2.defScope (top 6), [PySem.Str.ofString "value"]⟩
def T : MS.Tb := ⟨P, G, [m0, m1, m2, m3, m4, m5, m6, m7, m8, m9, m10, m11, m12, m13, m14, m15, m16, m17, m18, m19, m20, m21, m22, m23, m24, m25, m26, m27, m28, m29, m30, m31], [PySem.Str.ofString "Gold", PySem.Str.ofString "KeptNumbers"]⟩
def loose0 : List PySem.Str := [PySem.Str.ofString "WordError", PySem.Str.ofString "InvalidOperation", PySem.Str.ofString "InvalidNumber", PySem.Str.ofString "SIXTY_DIGITS", PySem.Str.ofString "is_whole", PySem.Str.ofString "is_integer", PySem.Str.ofString "require_integer", PySem.Str.ofString "sense_in", PySem.Str.ofString "part_text", PySem.Str.ofString "gold_text", PySem.Str.ofString "KeptNumbers", PySem.Str.ofString "numbers_told", PySem.Str.ofString "Gold", PySem.Str.ofString "made_gold", PySem.Str.ofString "_law_basin", PySem.Str.ofString "_law_scoop", PySem.Str.ofString "_law_one_of", PySem.Str.ofString "_law_number", PySem.Str.ofString "_law_root_below", PySem.Str.ofString "_law_gold_sense", PySem.Str.ofString "_law_near_gold", PySem.Str.ofString "_law_product", PySem.Str.ofString "_law_is_pair", PySem.Str.ofString "_law_ops_right", PySem.Str.ofString "_law_order_right"]
def loose : List PySem.Str := loose0
def ilaw : Nat := 29
@[simp] theorem cls_0 : P.clss[0]? = some ⟨[13, 14], 6, [(0, 11), (1, 12), (2, 13), (3, 14), (11, 15), (4, 16), (5, 17), (12, 18)], [(7, 7), (8, 8), (9, 9), (10, 10)]⟩ := rfl
@[simp] theorem meth_0_0 : methOf P 0 0 = some 11 := rfl
@[simp] theorem prop_0_0 : propOf P 0 0 = none := rfl
@[simp] theorem slot_0_0 : slotOf P 0 0 = none := rfl
@[simp] theorem meth_0_1 : methOf P 0 1 = some 12 := rfl
@[simp] theorem prop_0_1 : propOf P 0 1 = none := rfl
@[simp] theorem slot_0_1 : slotOf P 0 1 = none := rfl
@[simp] theorem meth_0_2 : methOf P 0 2 = some 13 := rfl
@[simp] theorem prop_0_2 : propOf P 0 2 = none := rfl
@[simp] theorem slot_0_2 : slotOf P 0 2 = none := rfl
@[simp] theorem meth_0_3 : methOf P 0 3 = some 14 := rfl
@[simp] theorem prop_0_3 : propOf P 0 3 = none := rfl
@[simp] theorem slot_0_3 : slotOf P 0 3 = none := rfl
@[simp] theorem meth_0_4 : methOf P 0 4 = some 16 := rfl
@[simp] theorem prop_0_4 : propOf P 0 4 = none := rfl
@[simp] theorem slot_0_4 : slotOf P 0 4 = none := rfl
@[simp] theorem meth_0_5 : methOf P 0 5 = some 17 := rfl
@[simp] theorem prop_0_5 : propOf P 0 5 = none := rfl
@[simp] theorem slot_0_5 : slotOf P 0 5 = none := rfl
@[simp] theorem meth_0_6 : methOf P 0 6 = none := rfl
@[simp] theorem prop_0_6 : propOf P 0 6 = none := rfl
@[simp] theorem slot_0_6 : slotOf P 0 6 = none := rfl
@[simp] theorem meth_0_7 : methOf P 0 7 = none := rfl
@[simp] theorem prop_0_7 : propOf P 0 7 = some 7 := rfl
@[simp] theorem slot_0_7 : slotOf P 0 7 = none := rfl
@[simp] theorem meth_0_8 : methOf P 0 8 = none := rfl
@[simp] theorem prop_0_8 : propOf P 0 8 = some 8 := rfl
@[simp] theorem slot_0_8 : slotOf P 0 8 = none := rfl
@[simp] theorem meth_0_9 : methOf P 0 9 = none := rfl
@[simp] theorem prop_0_9 : propOf P 0 9 = some 9 := rfl
@[simp] theorem slot_0_9 : slotOf P 0 9 = none := rfl
@[simp] theorem meth_0_10 : methOf P 0 10 = none := rfl
@[simp] theorem prop_0_10 : propOf P 0 10 = some 10 := rfl
@[simp] theorem slot_0_10 : slotOf P 0 10 = none := rfl
@[simp] theorem meth_0_11 : methOf P 0 11 = some 15 := rfl
@[simp] theorem prop_0_11 : propOf P 0 11 = none := rfl
@[simp] theorem slot_0_11 : slotOf P 0 11 = none := rfl
@[simp] theorem meth_0_12 : methOf P 0 12 = some 18 := rfl
@[simp] theorem prop_0_12 : propOf P 0 12 = none := rfl
@[simp] theorem slot_0_12 : slotOf P 0 12 = none := rfl
@[simp] theorem meth_0_13 : methOf P 0 13 = none := rfl
@[simp] theorem prop_0_13 : propOf P 0 13 = none := rfl
@[simp] theorem slot_0_13 : slotOf P 0 13 = some 0 := rfl
@[simp] theorem meth_0_14 : methOf P 0 14 = none := rfl
@[simp] theorem prop_0_14 : propOf P 0 14 = none := rfl
@[simp] theorem slot_0_14 : slotOf P 0 14 = some 1 := rfl
@[simp] theorem meth_0_15 : methOf P 0 15 = none := rfl
@[simp] theorem prop_0_15 : propOf P 0 15 = none := rfl
@[simp] theorem slot_0_15 : slotOf P 0 15 = none := rfl
@[simp] theorem cls_1 : P.clss[1]? = some ⟨[15], 28, [], []⟩ := rfl
@[simp] theorem meth_1_0 : methOf P 1 0 = none := rfl
@[simp] theorem prop_1_0 : propOf P 1 0 = none := rfl
@[simp] theorem slot_1_0 : slotOf P 1 0 = none := rfl
@[simp] theorem meth_1_1 : methOf P 1 1 = none := rfl
@[simp] theorem prop_1_1 : propOf P 1 1 = none := rfl
@[simp] theorem slot_1_1 : slotOf P 1 1 = none := rfl
@[simp] theorem meth_1_2 : methOf P 1 2 = none := rfl
@[simp] theorem prop_1_2 : propOf P 1 2 = none := rfl
@[simp] theorem slot_1_2 : slotOf P 1 2 = none := rfl
@[simp] theorem meth_1_3 : methOf P 1 3 = none := rfl
@[simp] theorem prop_1_3 : propOf P 1 3 = none := rfl
@[simp] theorem slot_1_3 : slotOf P 1 3 = none := rfl
@[simp] theorem meth_1_4 : methOf P 1 4 = none := rfl
@[simp] theorem prop_1_4 : propOf P 1 4 = none := rfl
@[simp] theorem slot_1_4 : slotOf P 1 4 = none := rfl
@[simp] theorem meth_1_5 : methOf P 1 5 = none := rfl
@[simp] theorem prop_1_5 : propOf P 1 5 = none := rfl
@[simp] theorem slot_1_5 : slotOf P 1 5 = none := rfl
@[simp] theorem meth_1_6 : methOf P 1 6 = none := rfl
@[simp] theorem prop_1_6 : propOf P 1 6 = none := rfl
@[simp] theorem slot_1_6 : slotOf P 1 6 = none := rfl
@[simp] theorem meth_1_7 : methOf P 1 7 = none := rfl
@[simp] theorem prop_1_7 : propOf P 1 7 = none := rfl
@[simp] theorem slot_1_7 : slotOf P 1 7 = none := rfl
@[simp] theorem meth_1_8 : methOf P 1 8 = none := rfl
@[simp] theorem prop_1_8 : propOf P 1 8 = none := rfl
@[simp] theorem slot_1_8 : slotOf P 1 8 = none := rfl
@[simp] theorem meth_1_9 : methOf P 1 9 = none := rfl
@[simp] theorem prop_1_9 : propOf P 1 9 = none := rfl
@[simp] theorem slot_1_9 : slotOf P 1 9 = none := rfl
@[simp] theorem meth_1_10 : methOf P 1 10 = none := rfl
@[simp] theorem prop_1_10 : propOf P 1 10 = none := rfl
@[simp] theorem slot_1_10 : slotOf P 1 10 = none := rfl
@[simp] theorem meth_1_11 : methOf P 1 11 = none := rfl
@[simp] theorem prop_1_11 : propOf P 1 11 = none := rfl
@[simp] theorem slot_1_11 : slotOf P 1 11 = none := rfl
@[simp] theorem meth_1_12 : methOf P 1 12 = none := rfl
@[simp] theorem prop_1_12 : propOf P 1 12 = none := rfl
@[simp] theorem slot_1_12 : slotOf P 1 12 = none := rfl
@[simp] theorem meth_1_13 : methOf P 1 13 = none := rfl
@[simp] theorem prop_1_13 : propOf P 1 13 = none := rfl
@[simp] theorem slot_1_13 : slotOf P 1 13 = none := rfl
@[simp] theorem meth_1_14 : methOf P 1 14 = none := rfl
@[simp] theorem prop_1_14 : propOf P 1 14 = none := rfl
@[simp] theorem slot_1_14 : slotOf P 1 14 = none := rfl
@[simp] theorem meth_1_15 : methOf P 1 15 = none := rfl
@[simp] theorem prop_1_15 : propOf P 1 15 = none := rfl
@[simp] theorem slot_1_15 : slotOf P 1 15 = some 0 := rfl
@[simp] theorem n_Add : P.nAdd = 0 := rfl
@[simp] theorem n_Sub : P.nSub = 1 := rfl
@[simp] theorem n_Mul : P.nMul = 2 := rfl
@[simp] theorem n_Neg : P.nNeg = 3 := rfl
@[simp] theorem n_Eq : P.nEq = 4 := rfl
@[simp] theorem n_Bool : P.nBool = 5 := rfl
@[simp] theorem glo_0 : P.glo[0]? = some (.int 1000000000000000000000000000000000000000000000000000000000000) := rfl
@[simp] theorem fuel_ : P.fuel = 4000 := rfl
@[simp] theorem dun_add : dunder P .add = some 0 := rfl
@[simp] theorem dun_sub : dunder P .sub = some 1 := rfl
@[simp] theorem dun_mul : dunder P .mul = some 2 := rfl
end K01
namespace K01
open PySem PySem.Spec PyProof.Rows
set_option maxHeartbeats 0 in
theorem txts : MS.txtsB T = true := by kernel_rfl
end K01

set_option maxRecDepth 100000
set_option maxHeartbeats 400000
namespace K01
open MI
def gold (w p : Int) : D := .ins 0 [.int p, .int w]
def kept (w p : Int) : D := .ins 1 [.tup [.int w, .int p]]
theorem new_kept {k : Nat} (hk : 1 ≤ k) (w p : Int) (μ : Store) : new P (callN P k) 1 [.int w, .int p] μ = .ok (kept w p) μ := by
  refine new_eq P (k := ⟨[15], 28, [], []⟩) (fs := [some (.tup [.int w, .int p])]) rfl ?_ rfl rfl rfl
  rw [callN_at P _ (f := 28) (d := d28) (vs := [.ref μ.length, .int w, .int p]) (by omega) rfl rfl]
  simp [d28]
  rw [setF_eq P (i := 0) (c := 1) (fs := [none]) (Nat.le_refl _) (st_get _ _) rfl (by simp)]
  simp
theorem told_kept {k : Nat} (hk : 1 ≤ k) (b : Nat) (w p : Int) (y : D) (μ : Store) : callN P k b 24 [kept w p, y] μ = .ok (.tup [.int w, .int p]) μ := by
  rw [callN_at P b (d := d24) (vs := [kept w p, y]) (by omega) rfl rfl]
  simp [d24, biC, isCl, kept, attrC]
theorem whole_ {k : Nat} (hk : 1 ≤ k) (b : Nat) (i : Int) (μ : Store) : callN P k b 31 [.int i] μ = .ok (.bl true) μ := by
  rw [callN_at P b (d := d31) (vs := [.int i]) (by omega) rfl rfl]
  simp [d31, biC, isTy, tyOfS, tyOf, tyNames]
theorem integer_ {k : Nat} (hk : 2 ≤ k) (b : Nat) (i : Int) (μ : Store) (h : i.natAbs < 10 ^ 60) : callN P k b 30 [.int i] μ = .ok (.bl true) μ := by
  rw [callN_at P b (d := d30) (vs := [.int i]) (by omega) rfl rfl]
  simp [d30, biC, whole_ (show 1 ≤ k - 1 by omega)]
  split <;> omega
theorem require_ {k : Nat} (hk : 3 ≤ k) (b : Nat) (i : Int) (μ : Store) (h : i.natAbs < 10 ^ 60) : callN P k b 29 [.int i] μ = .ok .non μ := by
  rw [callN_at P b (d := d29) (vs := [.int i]) (by omega) rfl rfl]
  simp [d29, integer_ (show 2 ≤ k - 1 by omega) _ _ _ h]
theorem told_ {k : Nat} (hk : 4 ≤ k) (b : Nat) (w p : Int) (μ : Store) (h : w.natAbs < 10 ^ 60) (h2 : p.natAbs < 10 ^ 60) : callN P k b 24 [.int w, .int p] μ = .ok (.tup [.int w, .int p]) μ := by
  rw [callN_at P b (d := d24) (vs := [.int w, .int p]) (by omega) rfl rfl]
  simp [d24, biC, isCl, tyOfS, tyOf, require_ (show 3 ≤ k - 1 by omega) _ _ _ h, require_ (show 3 ≤ k - 1 by omega) _ _ _ h2]
theorem gold_init {k : Nat} (hk : 1 ≤ k) (x y : D) (w p : Int) (μ : Store) (ht : callN P (k - 1) μ.length 24 [x, y] (μ ++ [.obj 0 [none, none]]) = .ok (.tup [.int w, .int p]) (μ ++ [.obj 0 [none, none]])) :
    callN P k μ.length 6 [.ref μ.length, x, y] (μ ++ [.obj 0 [none, none]]) = .ok .non (μ ++ [.obj 0 [some (.int p), some (.int w)]]) := by
  rw [callN_at P _ (d := d6) (vs := [.ref μ.length, x, y]) (by omega) rfl rfl]
  simp [d6, ht, ix]
  rw [setF_eq P (i := 1) (c := 0) (fs := [none, none]) (Nat.le_refl _) (st_get _ _) rfl (by simp)]
  simp [ix]
  rw [setF_eq P (i := 0) (c := 0) (fs := [none, some (.int w)]) (Nat.le_refl _) (st_get _ _) rfl (by simp)]
  simp
theorem made_ {k : Nat} (hk : 3 ≤ k) (b : Nat) (w p : Int) (μ : Store) : callN P k b 26 [.int w, .int p] μ = .ok (gold w p) μ := by
  rw [callN_at P b (d := d26) (vs := [.int w, .int p]) (by omega) rfl rfl]
  have e : new P (callN P (k - 1)) 0 [kept w p] μ = .ok (gold w p) μ :=
    new_eq P (k := ⟨[13, 14], 6, [(0, 11), (1, 12), (2, 13), (3, 14), (11, 15), (4, 16), (5, 17), (12, 18)], [(7, 7), (8, 8), (9, 9), (10, 10)]⟩) (fs := [some (.int p), some (.int w)]) rfl (by
      have h := gold_init (k := k - 1) (by omega) (kept w p) (.int 0) w p μ (told_kept (by omega) _ _ _ _ _)
      rw [callN_at P _ (d := d6) (vs := [.ref μ.length, kept w p, .int 0]) (by omega) rfl rfl] at h ⊢
      exact h) rfl rfl rfl
  simp [d26, new_kept (show 1 ≤ k - 1 by omega), e]
theorem gold_ {k : Nat} (hk : 5 ≤ k) (w p : Int) (μ : Store) (h : w.natAbs < 10 ^ 60) (h2 : p.natAbs < 10 ^ 60) : new P (callN P k) 0 [.int w, .int p] μ = .ok (gold w p) μ :=
  new_eq P (k := ⟨[13, 14], 6, [(0, 11), (1, 12), (2, 13), (3, 14), (11, 15), (4, 16), (5, 17), (12, 18)], [(7, 7), (8, 8), (9, 9), (10, 10)]⟩) (fs := [some (.int p), some (.int w)]) rfl (gold_init (by omega) _ _ _ _ _ (told_ (by omega) _ _ _ _ h h2)) rfl rfl rfl
theorem gold1_ {k : Nat} (hk : 5 ≤ k) (w : Int) (μ : Store) (h : w.natAbs < 10 ^ 60) : new P (callN P k) 0 [.int w] μ = .ok (gold w 0) μ :=
  new_eq P (k := ⟨[13, 14], 6, [(0, 11), (1, 12), (2, 13), (3, 14), (11, 15), (4, 16), (5, 17), (12, 18)], [(7, 7), (8, 8), (9, 9), (10, 10)]⟩) (fs := [some (.int 0), some (.int w)]) rfl (by
      have h := gold_init (k := k) (by omega) (.int w) (.int 0) w 0 μ (told_ (by omega) _ _ _ _ h (by decide))
      rw [callN_at P _ (d := d6) (vs := [.ref μ.length, .int w, .int 0]) (by omega) rfl rfl] at h ⊢
      exact h) rfl rfl rfl
end K01

set_option maxRecDepth 100000
set_option maxHeartbeats 400000
namespace K01
open MI
theorem isg (k : Nat) (b : Nat) (w p : Int) (μ : Store) : biC P (callN P k) b .isi [gold w p, .cls 0] μ = .ok (.bl true) μ := by
  simp [biC, isCl, gold]
theorem at14 (k b : Nat) (w p : Int) (μ : Store) : attrC P (callN P k) b 14 (gold w p) μ = .ok (.int w) μ := by simp [attrC, gold]
theorem at13 (k b : Nat) (w p : Int) (μ : Store) : attrC P (callN P k) b 13 (gold w p) μ = .ok (.int p) μ := by simp [attrC, gold]
theorem at7 (k b : Nat) (w p : Int) (μ : Store) : attrC P (callN P k) b 7 (gold w p) μ = noEx (callN P k b 7 [gold w p] μ) := by simp [attrC, gold]
theorem at8 (k b : Nat) (w p : Int) (μ : Store) : attrC P (callN P k) b 8 (gold w p) μ = noEx (callN P k b 8 [gold w p] μ) := by simp [attrC, gold]
theorem at9 (k b : Nat) (w p : Int) (μ : Store) : attrC P (callN P k) b 9 (gold w p) μ = noEx (callN P k b 9 [gold w p] μ) := by simp [attrC, gold]
theorem at10 (k b : Nat) (w p : Int) (μ : Store) : attrC P (callN P k) b 10 (gold w p) μ = noEx (callN P k b 10 [gold w p] μ) := by simp [attrC, gold]
theorem add_ {k : Nat} (hk : 4 ≤ k) (b : Nat) (w p v q : Int) (μ : Store) : callN P k b 11 [gold w p, gold v q] μ = .ok (gold (w + v) (p + q)) μ := by
  rw [callN_at P b (d := d11) (vs := [gold w p, gold v q]) (by omega) rfl rfl]
  simp [d11, isg, at14, at13, made_ (show 3 ≤ k - 1 by omega)]
theorem sub_ {k : Nat} (hk : 4 ≤ k) (b : Nat) (w p v q : Int) (μ : Store) : callN P k b 12 [gold w p, gold v q] μ = .ok (gold (w - v) (p - q)) μ := by
  rw [callN_at P b (d := d12) (vs := [gold w p, gold v q]) (by omega) rfl rfl]
  simp [d12, isg, at14, at13, made_ (show 3 ≤ k - 1 by omega)]
theorem neg_ {k : Nat} (hk : 4 ≤ k) (b : Nat) (w p : Int) (μ : Store) : callN P k b 14 [gold w p] μ = .ok (gold (-w) (-p)) μ := by
  rw [callN_at P b (d := d14) (vs := [gold w p]) (by omega) rfl rfl]
  simp [d14, at14, at13, made_ (show 3 ≤ k - 1 by omega)]
def GS (n : Nat) (w p : Int) : Prop := Sz n w ∧ Sz n p
theorem mulo {n m : Nat} {i j : Int} (h : Sz n i) (h2 : Sz m j) (hn : 0 < n ∧ n ≤ 10000) (hm : 0 < m ∧ m ≤ 10000) : opI .mul i j = some (i * j) := opI_mul _ _ (h.mulOk h2 hn.1 hm.1 (by omega))
theorem mul_ {k : Nat} (hk : 4 ≤ k) (b : Nat) {n m : Nat} (w p v q : Int) (μ : Store) (h : GS n w p) (h2 : GS m v q) (hn : 0 < n ∧ n ≤ 10000) (hm : 0 < m ∧ m ≤ 10000) :
    callN P k b 13 [gold w p, gold v q] μ = .ok (gold (w * v + p * q) (w * q + p * v + p * q)) μ := by
  rw [callN_at P b (d := d13) (vs := [gold w p, gold v q]) (by omega) rfl rfl]
  simp [d13, isg, at14, at13, made_ (show 3 ≤ k - 1 by omega), mulo h.1 h2.1 hn hm, mulo h.2 h2.2 hn hm, mulo h.1 h2.2 hn hm, mulo h.2 h2.1 hn hm]
theorem norm_ {k : Nat} (hk : 1 ≤ k) (b : Nat) {n : Nat} (w p : Int) (μ : Store) (h : GS n w p) (hn : 0 < n ∧ n ≤ 10000) : callN P k b 9 [gold w p] μ = .ok (.int (w * w + w * p - p * p)) μ := by
  rw [callN_at P b (d := d9) (vs := [gold w p]) (by omega) rfl rfl]
  simp [d9, at14, at13, mulo h.1 h.1 hn hn, mulo h.1 h.2 hn hn, mulo h.2 h.2 hn hn]
theorem whole__ {k : Nat} (hk : 1 ≤ k) (b : Nat) (w p : Int) (μ : Store) : callN P k b 7 [gold w p] μ = .ok (.int w) μ := by
  rw [callN_at P b (d := d7) (vs := [gold w p]) (by omega) rfl rfl]
  simp [d7, at14]
theorem part__ {k : Nat} (hk : 1 ≤ k) (b : Nat) (w p : Int) (μ : Store) : callN P k b 8 [gold w p] μ = .ok (.int p) μ := by
  rw [callN_at P b (d := d8) (vs := [gold w p]) (by omega) rfl rfl]
  simp [d8, at13]
/-- the sense as the program tells it -/
def senseI (w p : Int) : Int := bif decide (2 * w + p = 0) && decide (p = 0) then 0
    else bif decide (0 ≤ 2 * w + p) && decide (0 ≤ p) then 1
    else bif decide (2 * w + p ≤ 0) && decide (p ≤ 0) then -1
    else bif decide (0 < 2 * w + p) == decide (5 * p * p < (2 * w + p) * (2 * w + p)) then 1 else -1
theorem sz2 : Sz 2 2 := by unfold Sz; decide
theorem sz5 : Sz 3 5 := by unfold Sz; decide
theorem sense_in_ {k : Nat} (hk : 1 ≤ k) (b : Nat) {n : Nat} (w p : Int) (μ : Store) (h : GS n w p) (hn : 0 < n ∧ n ≤ 9000) : callN P k b 25 [.int w, .int p] μ = .ok (.int (senseI w p)) μ := by
  rw [callN_at P b (d := d25) (vs := [.int w, .int p]) (by omega) rfl rfl]
  have t1 : Sz (n + 3) (2 * w + p) := ((sz2.mul h.1).mono (m := n + 2) (by omega)).add (h.2.mono (by omega))
  have f1 : Sz (n + 3) (5 * p) := (sz5.mul h.2).mono (by omega)
  simp [d25, mulo sz2 h.1 (by omega) (by omega), mulo t1 t1 (by omega) (by omega), mulo sz5 h.2 (by omega) (by omega), mulo f1 h.2 (by omega) (by omega)]
  rfl
theorem sense_ {k : Nat} (hk : 2 ≤ k) (b : Nat) {n : Nat} (w p : Int) (μ : Store) (h : GS n w p) (hn : 0 < n ∧ n ≤ 9000) : callN P k b 10 [gold w p] μ = .ok (.int (senseI w p)) μ := by
  rw [callN_at P b (d := d10) (vs := [gold w p]) (by omega) rfl rfl]
  simp [d10, at14, at13, sense_in_ (show 1 ≤ k - 1 by omega) _ w p μ h hn]
theorem less_ {k : Nat} (hk : 2 ≤ k) (b : Nat) {n : Nat} (w p v q : Int) (μ : Store) (h : GS n w p) (h2 : GS n v q) (hn : 0 < n ∧ n ≤ 8000) : callN P k b 15 [gold w p, gold v q] μ = .ok (.bl (decide (senseI (w - v) (p - q) < 0))) μ := by
  rw [callN_at P b (d := d15) (vs := [gold w p, gold v q]) (by omega) rfl rfl]
  simp [d15, isg, at14, at13, sense_in_ (show 1 ≤ k - 1 by omega) _ (w - v) (p - q) μ ⟨h.1.sub h2.1, h.2.sub h2.2⟩ (by omega)]
theorem eq_ {k : Nat} (hk : 1 ≤ k) (b : Nat) (w p v q : Int) (μ : Store) : callN P k b 16 [gold w p, gold v q] μ = .ok (.bl (decide (w = v) && decide (p = q))) μ := by
  rw [callN_at P b (d := d16) (vs := [gold w p, gold v q]) (by omega) rfl rfl]
  simp [d16, isg, at14, at13]
theorem bool_ {k : Nat} (hk : 1 ≤ k) (b : Nat) (w p : Int) (μ : Store) : callN P k b 17 [gold w p] μ = .ok (.bl (!decide (w = 0) || !decide (p = 0))) μ := by
  rw [callN_at P b (d := d17) (vs := [gold w p]) (by omega) rfl rfl]
  simp [d17, at14, at13, biC]
theorem deq_pair (a c d e : Int) : deq (.tup [.int a, .int c]) (.tup [.int d, .int e]) = some (decide (a = d) && decide (c = e)) := by
  have e : deq (.tup [.int a, .int c]) (.tup [.int d, .int e]) = some (a == d && (c == e && true)) := rfl
  rw [e, Bool.and_true]
  have z : ∀ x y : Int, (x == y) = decide (x = y) := fun x y => by by_cases h : x = y <;> simp [h]
  rw [z, z]
theorem pair_ {k : Nat} (hk : 2 ≤ k) (b : Nat) (w p v q : Int) (μ : Store) : callN P k b 21 [gold w p, .tup [.int v, .int q]] μ = .ok (.bl (decide (w = v) && decide (p = q))) μ := by
  rw [callN_at P b (d := d21) (vs := [gold w p, .tup [.int v, .int q]]) (by omega) rfl rfl]
  simp [d21, at7, at8, whole__ (show 1 ≤ k - 1 by omega), part__ (show 1 ≤ k - 1 by omega), cmp2, deq_pair]
theorem product_ {k : Nat} (hk : 1 ≤ k) (b : Nat) {n : Nat} (w p v q : Int) (μ : Store) (h : GS n w p) (h2 : GS n v q) (hn : 0 < n ∧ n ≤ 8000) : callN P k b 22 [.tup [.int w, .int p], .tup [.int v, .int q]] μ = .ok (.tup [.int (w * v + p * q), .int (w * q + p * v + p * q)]) μ := by
  rw [callN_at P b (d := d22) (vs := [.tup [.int w, .int p], .tup [.int v, .int q]]) (by omega) rfl rfl]
  simp [d22, ix, mulo h.1 h2.1 (by omega) (by omega), mulo h.2 h2.2 (by omega) (by omega), mulo h.1 h2.2 (by omega) (by omega), mulo h.2 h2.1 (by omega) (by omega)]
end K01

set_option maxRecDepth 100000
set_option maxHeartbeats 400000
namespace K01
open MI
theorem pow_pos' (j : Nat) : (0 : Int) < 2 ^ j := Int.pow_pos (by decide)
theorem sz_pow (j : Nat) : Sz (j + 1) ((2 : Int) ^ j) := by
  unfold Sz
  rw [Int.natAbs_pow]
  exact Nat.pow_lt_pow_right (by decide) (Nat.lt_succ_self j)
theorem sz_le {n : Nat} {i j : Int} (h : Sz n j) (h0 : 0 ≤ i) (h1 : i ≤ j) : Sz n i := by
  unfold Sz at *; omega
/-- the loops of _law_root_below -/
def w1 : Ts := .val (.cmp .le (.bin .mul (.var 1) (.var 1)) (.var 0))
def b1 : List Sm := [.asg 1 (.bin .mul (.var 1) (.lit (.int 2)))]
theorem loop1 (cf : Nat → Call) (b : Nat) (n : Int) (μ : Store) : ∀ (m fuel j : Nat), m < fuel → n < 2 ^ (j + m) * 2 ^ (j + m) → j + m ≤ 3000 →
    ∃ J, J ≤ j + m ∧ n < 2 ^ J * 2 ^ J ∧ whileN (evT P cf b w1) (exL P cf b b1) fuel [some (.int n), some (.int (2 ^ j)), none] μ = .nx [some (.int n), some (.int (2 ^ J)), none] μ
  | m, 0, j, h, _, _ => by omega
  | m, fuel + 1, j, h, h1, h2 => by
    have hm : opI .mul (2 ^ j) (2 ^ j) = some (2 ^ j * 2 ^ j) := mulo (sz_pow j) (sz_pow j) (by omega) (by omega)
    have hm2 : opI .mul (2 ^ j) 2 = some (2 ^ j * 2) := mulo (sz_pow j) sz2 (by omega) (by omega)
    unfold whileN
    have ht : evT P cf b w1 [some (.int n), some (.int (2 ^ j)), none] μ = .ok (decide (2 ^ j * 2 ^ j ≤ n)) μ := by simp [w1, hm]
    rw [ht]
    by_cases hc : (2 : Int) ^ j * 2 ^ j ≤ n
    · rw [decide_eq_true hc]
      have hb : exL P cf b b1 [some (.int n), some (.int (2 ^ j)), none] μ = .nx [some (.int n), some (.int (2 ^ (j + 1))), none] μ := by simp [b1, hm2, Int.pow_succ]
      dsimp only
      rw [hb]
      cases m with
      | zero => exact absurd h1 (by simpa using hc)
      | succ m =>
        obtain ⟨J, q1, q2, q3⟩ := loop1 cf b n μ m fuel (j + 1) (by omega) (by rw [show j + 1 + m = j + (m + 1) by omega]; exact h1) (by omega)
        exact ⟨J, by omega, q2, q3⟩
    · rw [decide_eq_false hc]
      exact ⟨j, by omega, by omega, rfl⟩
def w2 : Ts := .val (.cmp .gt (.var 2) (.lit (.int 0)))
def b2 : List Sm := [.ifs (.val (.cmp .le (.bin .mul (.bin .add (.var 1) (.var 2)) (.bin .add (.var 1) (.var 2))) (.var 0))) [.asg 1 (.bin .add (.var 1) (.var 2))] [], .asg 2 (.bin .fdiv (.var 2) (.lit (.int 2)))]
theorem div2 : ∀ i : Int, opI .fdiv i 2 = some (i / 2) := fun i => opI_fdiv _ _ (by decide)
theorem step2 (cf : Nat → Call) (b : Nat) (n a s : Int) (μ : Store) (h : Sz 3005 (a + s)) :
    exL P cf b b2 [some (.int n), some (.int a), some (.int s)] μ = .nx [some (.int n), some (.int (bif decide ((a + s) * (a + s) ≤ n) then a + s else a)), some (.int (s / 2))] μ := by
  have hm := mulo h h (by omega) (by omega)
  by_cases hc : (a + s) * (a + s) ≤ n
  · simp [b2, hm, hc, div2]
  · simp [b2, hm, hc, div2]
theorem loop2 (cf : Nat → Call) (b : Nat) (n : Int) (μ : Store) : ∀ (j fuel : Nat) (a : Int), j + 1 < fuel → 0 ≤ a → a * a ≤ n → n < (a + 2 * 2 ^ j) * (a + 2 * 2 ^ j) → j ≤ 3000 → a + 2 * 2 ^ j ≤ 2 ^ 3002 →
    ∃ r, 0 ≤ r ∧ r * r ≤ n ∧ n < (r + 1) * (r + 1) ∧ whileN (evT P cf b w2) (exL P cf b b2) fuel [some (.int n), some (.int a), some (.int (2 ^ j))] μ = .nx [some (.int n), some (.int r), some (.int 0)] μ := by
  intro j
  induction j with
  | zero =>
    intro fuel a h ha h1 h2 _ hb
    obtain ⟨f, rfl⟩ : ∃ f, fuel = f + 2 := ⟨fuel - 2, by omega⟩
    have hs : Sz 3005 (a + 1) := sz_le ((sz_pow 3002).mono (by omega)) (by omega) (by simp at hb; omega)
    unfold whileN
    have ht : evT P cf b w2 [some (.int n), some (.int a), some (.int (2 ^ 0))] μ = .ok true μ := by simp [w2]
    rw [ht]
    dsimp only
    rw [show ((2 : Int) ^ 0) = 1 from rfl, step2 cf b n a 1 μ hs]
    dsimp only
    unfold whileN
    have ht2 : ∀ a', evT P cf b w2 [some (.int n), some (.int a'), some (.int (1 / 2))] μ = .ok false μ := fun a' => by simp [w2]
    rw [ht2]
    dsimp only
    by_cases hc : (a + 1) * (a + 1) ≤ n
    · refine ⟨a + 1, by omega, hc, by simpa [Int.add_assoc] using h2, ?_⟩
      simp [hc]
    · refine ⟨a, ha, h1, by omega, ?_⟩
      simp [hc]
  | succ j ih =>
    intro fuel a h ha h1 h2 hj hb
    obtain ⟨f, rfl⟩ : ∃ f, fuel = f + 1 := ⟨fuel - 1, by omega⟩
    have hp := pow_pos' j
    have e1 : (2 : Int) ^ (j + 1) = 2 * 2 ^ j := by rw [Int.pow_succ, Int.mul_comm]
    rw [e1] at h2 hb ⊢
    have hs : Sz 3005 (a + 2 * 2 ^ j) := sz_le ((sz_pow 3002).mono (by omega)) (by omega) (by omega)
    unfold whileN
    have ht : evT P cf b w2 [some (.int n), some (.int a), some (.int (2 * 2 ^ j))] μ = .ok true μ := by simp [w2]; omega
    rw [ht]
    dsimp only
    rw [step2 cf b n a (2 * 2 ^ j) μ hs]
    dsimp only
    have e2 : (2 * (2 : Int) ^ j) / 2 = 2 ^ j := by omega
    rw [e2]
    by_cases hc : (a + 2 * 2 ^ j) * (a + 2 * 2 ^ j) ≤ n
    · rw [decide_eq_true hc]
      exact ih f (a + 2 * 2 ^ j) (by omega) (by omega) hc (by rw [show a + 2 * 2 ^ j + 2 * 2 ^ j = a + 2 * (2 * 2 ^ j) by omega]; exact h2) (by omega) (by omega)
    · rw [decide_eq_false hc]
      exact ih f a (by omega) ha h1 (by omega) (by omega) (by omega)
theorem root_ {k : Nat} (hk : 1 ≤ k) (b : Nat) (n : Int) (μ : Store) (h0 : 0 ≤ n) (h : Sz 5000 n) : ∃ r, 0 ≤ r ∧ r * r ≤ n ∧ n < (r + 1) * (r + 1) ∧ callN P k b 27 [.int n] μ = .ok (.int r) μ := by
  rw [callN_at P b (d := d27) (vs := [.int n]) (by omega) rfl rfl]
  by_cases hz : n = 0
  · subst hz
    exact ⟨0, by decide, by decide, by decide, by simp [d27]⟩
  · have hlt : n < 2 ^ (0 + 2500) * 2 ^ (0 + 2500) := by
      rw [← Int.pow_add]
      unfold Sz at h
      have : ((n.natAbs : Nat) : Int) < ((2 ^ 5000 : Nat) : Int) := Int.ofNat_lt.mpr h
      rw [Int.natCast_pow] at this
      have e : ((n.natAbs : Nat) : Int) = n := by omega
      rw [e] at this
      exact this
    obtain ⟨J, q1, q2, q3⟩ := loop1 (callN P (k - 1)) μ.length n μ 2500 4000 0 (by omega) hlt (by omega)
    have hJ := pow_pos' J
    have hle : ((2 : Int) ^ J) ≤ 2 ^ 3000 := by
      have : (2 : Nat) ^ J ≤ 2 ^ 3000 := Nat.pow_le_pow_right (by decide) (by omega)
      exact_mod_cast this
    have e3 : (2 : Int) ^ 3002 = 4 * 2 ^ 3000 := by rw [show 3002 = 3000 + 2 from rfl, Int.pow_add]; omega
    obtain ⟨r, r1, r2, r3, r4⟩ := loop2 (callN P (k - 1)) μ.length n μ J 4000 0 (by omega) (by omega) (by omega) (by
      have : (2 : Int) ^ J * 2 ^ J ≤ (0 + 2 * 2 ^ J) * (0 + 2 * 2 ^ J) := Int.mul_le_mul (by omega) (by omega) (by omega) (by omega)
      omega) (by omega) (by omega)
    refine ⟨r, r1, r2, r3, ?_⟩
    have q3' : whileN (evT P (callN P (k - 1)) μ.length (.val (.cmp .le (.bin .mul (.var 1) (.var 1)) (.var 0)))) (exL P (callN P (k - 1)) μ.length [.asg 1 (.bin .mul (.var 1) (.lit (.int 2)))]) 4000 [some (.int n), some (.int 1), none] μ = .nx [some (.int n), some (.int (2 ^ J)), none] μ := q3
    have r4' : whileN (evT P (callN P (k - 1)) μ.length (.val (.cmp .gt (.var 2) (.lit (.int 0))))) (exL P (callN P (k - 1)) μ.length [.ifs (.val (.cmp .le (.bin .mul (.bin .add (.var 1) (.var 2)) (.bin .add (.var 1) (.var 2))) (.var 0))) [.asg 1 (.bin .add (.var 1) (.var 2))] [], .asg 2 (.bin .fdiv (.var 2) (.lit (.int 2)))]) 4000 [some (.int n), some (.int 0), some (.int (2 ^ J))] μ = .nx [some (.int n), some (.int r), some (.int 0)] μ := r4
    simp only [d27, exL_cons, exS_ifs, evT_val, evE_cmp, evE_var, evE_lit]
    simp [hz, q3', r4']
end K01

set_option maxRecDepth 100000
set_option maxHeartbeats 400000
namespace K01
open MI
theorem sq_le {a b : Int} (ha : 0 ≤ a) (h : a * a ≤ b * b) (hb : 0 ≤ b) : a ≤ b := by
  apply Int.not_lt.mp
  intro c
  have : b * b < a * a := Int.mul_lt_mul' (Int.le_of_lt c) c hb (by omega)
  omega
theorem sq_mono {a b : Int} (ha : 0 ≤ a) (h : a ≤ b) : a * a ≤ b * b := Int.mul_le_mul h h ha (by omega)
/-- below the root, by squares -/
theorem le_root {r n m : Int} (hr : 0 ≤ r) (h1 : r * r ≤ n) (h2 : n < (r + 1) * (r + 1)) (hm : 0 ≤ m) : m ≤ r ↔ m * m ≤ n := by
  constructor
  · intro h; have := sq_mono hm h; omega
  · intro h
    apply Int.not_lt.mp
    intro c
    have := sq_mono (a := r + 1) (b := m) (by omega) (by omega)
    omega
theorem gsense_ {k : Nat} (hk : 2 ≤ k) (b : Nat) {n : Nat} (w p : Int) (μ : Store) (h : GS n w p) (hn : 0 < n ∧ n ≤ 2000) : callN P k b 23 [.int w, .int p] μ = .ok (.int (senseI w p)) μ := by
  have hp2 : 0 ≤ 5 * p * p := by
    rw [Int.mul_assoc]
    have : 0 ≤ p * p := by
      rcases Int.le_total 0 p with c | c
      · exact Int.mul_nonneg c c
      · exact Int.mul_nonneg_of_nonpos_of_nonpos c c
    omega
  have f1 : Sz (n + 3) (5 * p) := (sz5.mul h.2).mono (by omega)
  obtain ⟨r, r1, r2, r3, r4⟩ := root_ (show 1 ≤ k - 1 by omega) μ.length (5 * p * p) μ hp2 ((f1.mul h.2).mono (by omega))
  rw [callN_at P b (d := d23) (vs := [.int w, .int p]) (by omega) rfl rfl]
  simp [d23, mulo sz2 h.1 (by omega) (by omega), mulo sz5 h.2 (by omega) (by omega), mulo f1 h.2 (by omega) (by omega), r4, biC]
  generalize ht : 2 * w + p = t at *
  unfold senseI
  rw [ht]
  rcases Int.lt_trichotomy p 0 with c | c | c
  · have e1 : decide (p = 0) = false := decide_eq_false (by omega)
    have e2 : decide (0 < p) = false := decide_eq_false (by omega)
    have e3 : decide (0 ≤ p) = false := decide_eq_false (by omega)
    have e4 : decide (p ≤ 0) = true := decide_eq_true (by omega)
    rw [e1, e2, e3, e4]
    simp only [Bool.and_false, Bool.and_true, cond_false]
    by_cases d : t ≤ 0
    · rw [decide_eq_true d, decide_eq_false (show ¬ r < t by omega)]; rfl
    · rw [decide_eq_false d, decide_eq_true (show 0 < t by omega)]
      have hh := le_root r1 r2 r3 (m := t) (by omega)
      by_cases f : 5 * p * p < t * t
      · rw [decide_eq_true f, decide_eq_true (show r < t by omega)]; rfl
      · rw [decide_eq_false f, decide_eq_false (show ¬ r < t by omega)]; rfl
  · subst c
    have e : t = 2 * w := by omega
    subst e
    rcases Int.lt_trichotomy w 0 with d | d | d
    · simp [show ¬ 0 < w by omega, d, show ¬ (2 * w = 0) by omega, show ¬ (0 ≤ 2 * w) by omega, show 2 * w ≤ 0 by omega]
    · subst d; rfl
    · simp [show ¬ w < 0 by omega, d, show ¬ (2 * w = 0) by omega, show 0 ≤ 2 * w by omega]
  · have e1 : decide (p = 0) = false := decide_eq_false (by omega)
    have e2 : decide (0 < p) = true := decide_eq_true (by omega)
    have e3 : decide (0 ≤ p) = true := decide_eq_true (by omega)
    have e4 : decide (p ≤ 0) = false := decide_eq_false (by omega)
    rw [e1, e2, e3, e4]
    simp only [Bool.and_false, Bool.and_true, cond_false, cond_true]
    by_cases d : 0 ≤ t
    · rw [decide_eq_true d, decide_eq_true (show -r ≤ t by omega)]; rfl
    · rw [decide_eq_false d, decide_eq_false (show ¬ 0 < t by omega)]
      have hh := le_root r1 r2 r3 (m := -t) (by omega)
      have en : -t * -t = t * t := by rw [Int.neg_mul_neg]
      rw [en] at hh
      by_cases f : 5 * p * p < t * t
      · rw [decide_eq_true f, decide_eq_false (show ¬ -r ≤ t by omega)]; rfl
      · rw [decide_eq_false f, decide_eq_true (show -r ≤ t by omega)]; rfl
/-! ### the sense -/
/-- t + p r > 0, r the root of 5 -/
def pos (t p : Int) : Prop := (0 < t ∧ 5 * (p * p) < t * t) ∨ (0 < p ∧ t * t < 5 * (p * p))
theorem irr : ∀ (n t p : Nat), p ≤ n → t * t = 5 * (p * p) → p = 0
  | 0, t, p, h, _ => by omega
  | n + 1, t, p, h, e => by
    by_cases hp : p = 0
    · exact hp
    have h5 : t % 5 = 0 := by
      have : (t * t) % 5 = 0 := by rw [e]; exact Nat.mul_mod_right 5 _
      have h2 : t % 5 = 0 ∨ t % 5 = 1 ∨ t % 5 = 2 ∨ t % 5 = 3 ∨ t % 5 = 4 := by omega
      rw [Nat.mul_mod] at this
      rcases h2 with q | q | q | q | q <;> rw [q] at this <;> first | exact q | (simp at this)
    obtain ⟨s, rfl⟩ : ∃ s, t = 5 * s := ⟨t / 5, by omega⟩
    have e2 : p * p = 5 * (s * s) := by
      have : 5 * s * (5 * s) = 5 * (5 * (s * s)) := by rw [Nat.mul_assoc, Nat.mul_left_comm s 5 s]
      rw [this] at e
      omega
    have hs : s < p := by
      apply Nat.lt_of_not_le
      intro c
      have : p * p ≤ s * s := Nat.mul_le_mul c c
      have : 0 < p * p := Nat.mul_pos (by omega) (by omega)
      omega
    have := irr n p s (by omega) e2
    subst this
    have : p * p = 0 := by omega
    have := Nat.mul_eq_zero.mp this
    omega
theorem irrI {t p : Int} (h : t * t = 5 * (p * p)) : p = 0 := by
  have e : (t.natAbs * t.natAbs : Nat) = 5 * (p.natAbs * p.natAbs) := by
    have h1 : ((t.natAbs * t.natAbs : Nat) : Int) = t * t := by rw [Int.natCast_mul]; exact Int.natAbs_mul_self' t
    have h2 : ((p.natAbs * p.natAbs : Nat) : Int) = p * p := by rw [Int.natCast_mul]; exact Int.natAbs_mul_self' p
    omega
  have := irr p.natAbs t.natAbs p.natAbs (Nat.le_refl _) e
  omega
theorem sq_lt {a b : Int} (hb : 0 ≤ b) (h : a * a < b * b) : a < b ∧ -b < a := by
  constructor
  · apply Int.not_le.mp
    intro c
    have := sq_mono hb c
    omega
  · apply Int.not_le.mp
    intro c
    have := sq_mono (a := b) (b := -a) hb (by omega)
    rw [Int.neg_mul_neg] at this
    omega
theorem sq_pos {a : Int} (h : a ≠ 0) : 0 < a * a := by
  rcases Int.lt_or_gt_of_ne h with c | c
  · exact Int.mul_pos_of_neg_of_neg c c
  · exact Int.mul_pos c c
theorem sq_nn (a : Int) : 0 ≤ a * a := by
  by_cases h : a = 0
  · subst h; decide
  · exact Int.le_of_lt (sq_pos h)
theorem normm (t p u q : Int) : (t * u + 5 * (p * q)) * (t * u + 5 * (p * q)) - 5 * ((t * q + p * u) * (t * q + p * u)) = (t * t - 5 * (p * p)) * (u * u - 5 * (q * q)) := by grind
theorem pos_mul {t p u q : Int} (h : pos t p) (h2 : pos u q) : pos (t * u + 5 * (p * q)) (t * q + p * u) := by
  have N := normm t p u q
  have c12 : ∀ {t p u q : Int}, 0 < t → 5 * (p * p) < t * t → 0 < q → u * u < 5 * (q * q) → 0 < t * q + p * u := fun {t p u q} a1 a2 b1 b2 => by
    have s1 : 5 * (p * p) * (u * u) ≤ t * t * (u * u) := Int.mul_le_mul_of_nonneg_right (Int.le_of_lt a2) (sq_nn u)
    have s2 : t * t * (u * u) < t * t * (5 * (q * q)) := Int.mul_lt_mul_of_pos_left b2 (Int.mul_pos a1 a1)
    have s3 : (p * u) * (p * u) < (t * q) * (t * q) := by
      have e1 : 5 * (p * p) * (u * u) = 5 * ((p * u) * (p * u)) := by grind
      have e2 : t * t * (5 * (q * q)) = 5 * ((t * q) * (t * q)) := by grind
      omega
    have := sq_lt (Int.le_of_lt (Int.mul_pos a1 b1)) s3
    omega
  rcases h with ⟨a1, a2⟩ | ⟨a1, a2⟩
  · rcases h2 with ⟨b1, b2⟩ | ⟨b1, b2⟩
    · refine .inl ⟨?_, ?_⟩
      · have s1 : 5 * (p * p) * (5 * (q * q)) ≤ t * t * (5 * (q * q)) := Int.mul_le_mul_of_nonneg_right (Int.le_of_lt a2) (by have := sq_nn q; omega)
        have s2 : t * t * (5 * (q * q)) < t * t * (u * u) := Int.mul_lt_mul_of_pos_left b2 (Int.mul_pos a1 a1)
        have s3 : (5 * (p * q)) * (5 * (p * q)) < (t * u) * (t * u) := by
          have e1 : 5 * (p * p) * (5 * (q * q)) = (5 * (p * q)) * (5 * (p * q)) := by grind
          have e2 : t * t * (u * u) = (t * u) * (t * u) := by grind
          omega
        have := sq_lt (Int.le_of_lt (Int.mul_pos a1 b1)) s3
        omega
      · have := Int.mul_pos (show 0 < t * t - 5 * (p * p) by omega) (show 0 < u * u - 5 * (q * q) by omega)
        omega
    · refine .inr ⟨c12 a1 a2 b1 b2, ?_⟩
      have := Int.mul_pos (show 0 < t * t - 5 * (p * p) by omega) (show 0 < 5 * (q * q) - u * u by omega)
      have e : (t * t - 5 * (p * p)) * (u * u - 5 * (q * q)) = -((t * t - 5 * (p * p)) * (5 * (q * q) - u * u)) := by grind
      omega
  · rcases h2 with ⟨b1, b2⟩ | ⟨b1, b2⟩
    · refine .inr ⟨?_, ?_⟩
      · have := c12 b1 b2 a1 a2
        have e : t * q + p * u = u * p + q * t := by grind
        omega
      · have := Int.mul_pos (show 0 < 5 * (p * p) - t * t by omega) (show 0 < u * u - 5 * (q * q) by omega)
        have e : (t * t - 5 * (p * p)) * (u * u - 5 * (q * q)) = -((5 * (p * p) - t * t) * (u * u - 5 * (q * q))) := by grind
        omega
    · refine .inl ⟨?_, ?_⟩
      · have s1 : t * t * (u * u) ≤ t * t * (5 * (q * q)) := Int.mul_le_mul_of_nonneg_left (Int.le_of_lt b2) (sq_nn t)
        have s2 : t * t * (5 * (q * q)) < 5 * (p * p) * (5 * (q * q)) := Int.mul_lt_mul_of_pos_right a2 (by have := Int.mul_pos b1 b1; omega)
        have s3 : (t * u) * (t * u) < (5 * (p * q)) * (5 * (p * q)) := by
          have e1 : 5 * (p * p) * (5 * (q * q)) = (5 * (p * q)) * (5 * (p * q)) := by grind
          have e2 : t * t * (u * u) = (t * u) * (t * u) := by grind
          omega
        have := sq_lt (by have := Int.mul_pos a1 b1; omega) s3
        omega
      · have := Int.mul_pos (show 0 < 5 * (p * p) - t * t by omega) (show 0 < 5 * (q * q) - u * u by omega)
        have e : (t * t - 5 * (p * p)) * (u * u - 5 * (q * q)) = (5 * (p * p) - t * t) * (5 * (q * q) - u * u) := by grind
        omega
theorem pos_half {t p : Int} (h : pos (2 * t) (2 * p)) : pos t p := by
  have e1 : (2 * t) * (2 * t) = 4 * (t * t) := by grind
  have e2 : (2 * p) * (2 * p) = 4 * (p * p) := by grind
  unfold pos at *
  rw [e1, e2] at h
  rcases h with ⟨a, b⟩ | ⟨a, b⟩
  · exact .inl ⟨by omega, by omega⟩
  · exact .inr ⟨by omega, by omega⟩
theorem pos_not {t p : Int} (h : pos t p) (h2 : pos (-t) (-p)) : False := by
  unfold pos at *
  rw [Int.neg_mul_neg, Int.neg_mul_neg] at h2
  omega
theorem sense_cases (w p : Int) : (w = 0 ∧ p = 0 ∧ senseI w p = 0) ∨ (pos (2 * w + p) p ∧ senseI w p = 1) ∨ (pos (-(2 * w + p)) (-p) ∧ senseI w p = -1) := by
  generalize ht : 2 * w + p = t
  unfold senseI
  rw [ht]
  have e0 : 5 * p * p = 5 * (p * p) := Int.mul_assoc _ _ _
  rw [e0]
  have hi : t * t ≠ 5 * (p * p) ∨ p = 0 := by
    by_cases h : t * t = 5 * (p * p)
    · exact .inr (irrI h)
    · exact .inl h
  unfold pos
  rw [Int.neg_mul_neg, Int.neg_mul_neg]
  have tp : t ≠ 0 → 0 < t * t := sq_pos
  have pp : p ≠ 0 → 0 < p * p := sq_pos
  have tz : t = 0 → t * t = 0 := fun z => by rw [z]; rfl
  have pz : p = 0 → p * p = 0 := fun z => by rw [z]; rfl
  generalize t * t = T at *
  generalize p * p = Q at *
  cases a1 : decide (t = 0) <;> cases a2 : decide (p = 0) <;> cases b1 : decide (0 ≤ t) <;> cases b2 : decide (0 ≤ p) <;> cases c1 : decide (t ≤ 0) <;> cases c2 : decide (p ≤ 0) <;> cases c3 : decide (0 < t) <;> cases b3 : decide (5 * Q < T)
  all_goals
    simp only [decide_eq_true_eq, decide_eq_false_iff_not] at a1 a2 b1 b2 c1 c2 c3 b3
    first
    | (exfalso; omega)
    | (left; refine ⟨by omega, by omega, ?_⟩; rfl)
    | (right; left; refine ⟨by omega, ?_⟩; rfl)
    | (right; right; refine ⟨by omega, ?_⟩; rfl)
theorem sense_one {w p : Int} (h : pos (2 * w + p) p) : senseI w p = 1 := by
  rcases sense_cases w p with ⟨a, b, _⟩ | ⟨_, b⟩ | ⟨a, _⟩
  · subst a b; unfold pos at h; omega
  · exact b
  · exact (pos_not h a).elim
theorem sense_neg (w p : Int) : senseI (-w) (-p) = -senseI w p := by
  rcases sense_cases w p with ⟨a, b, c⟩ | ⟨a, b⟩ | ⟨a, b⟩
  · subst a b; rfl
  · rw [b]
    rcases sense_cases (-w) (-p) with ⟨a', b', _⟩ | ⟨a', _⟩ | ⟨_, b'⟩
    · have e1 : w = 0 := by omega
      have e2 : p = 0 := by omega
      subst e1 e2; unfold pos at a; omega
    · exact (pos_not a (by rw [show -(2 * w + p) = 2 * -w + -p by omega]; exact a')).elim
    · exact b'
  · rw [b]
    exact sense_one (by rw [show 2 * -w + -p = -(2 * w + p) by omega]; exact a)
theorem sense_zero {w p : Int} : senseI w p = 0 ↔ w = 0 ∧ p = 0 := by
  rcases sense_cases w p with ⟨a, b, c⟩ | ⟨a, b⟩ | ⟨a, b⟩
  · exact ⟨fun _ => ⟨a, b⟩, fun _ => c⟩
  · rw [b]
    refine ⟨fun h => by omega, fun ⟨x, y⟩ => ?_⟩
    subst x y; unfold pos at a; omega
  · rw [b]
    refine ⟨fun h => by omega, fun ⟨x, y⟩ => ?_⟩
    subst x y; unfold pos at a; omega
theorem gold_pos {w p v q : Int} (h : pos (2 * w + p) p) (h2 : pos (2 * v + q) q) : pos (2 * (w * v + p * q) + (w * q + p * v + p * q)) (w * q + p * v + p * q) := by
  have m := pos_mul h h2
  refine pos_half ?_
  have e1 : (2 * w + p) * (2 * v + q) + 5 * (p * q) = 2 * (2 * (w * v + p * q) + (w * q + p * v + p * q)) := by grind
  have e2 : (2 * w + p) * q + p * (2 * v + q) = 2 * (w * q + p * v + p * q) := by grind
  rw [e1, e2] at m
  exact m
theorem sense_mul (w p v q : Int) : senseI (w * v + p * q) (w * q + p * v + p * q) = senseI w p * senseI v q := by
  have flip : ∀ {w p : Int}, pos (-(2 * w + p)) (-p) → pos (2 * -w + -p) (-p) := fun {w p} h => by
    rw [show 2 * -w + -p = -(2 * w + p) by omega]; exact h
  have z : senseI 0 0 = 0 := rfl
  rcases sense_cases w p with ⟨a, b, c⟩ | ⟨a, b⟩ | ⟨a, b⟩
  · subst a b; rw [c]; simp [z]
  · rcases sense_cases v q with ⟨a', b', c'⟩ | ⟨a', b'⟩ | ⟨a', b'⟩
    · subst a' b'; rw [c']; simp [z]
    · rw [b, b', sense_one (gold_pos a a')]; rfl
    · rw [b, b']
      have m := sense_one (gold_pos a (flip a'))
      rw [show w * -v + p * -q = -(w * v + p * q) by grind, show w * -q + p * -v + p * -q = -(w * q + p * v + p * q) by grind, sense_neg] at m
      omega
  · rcases sense_cases v q with ⟨a', b', c'⟩ | ⟨a', b'⟩ | ⟨a', b'⟩
    · subst a' b'; rw [c']; simp [z]
    · rw [b, b']
      have m := sense_one (gold_pos (flip a) a')
      rw [show -w * v + -p * q = -(w * v + p * q) by grind, show -w * q + -p * v + -p * q = -(w * q + p * v + p * q) by grind, sense_neg] at m
      omega
    · rw [b, b']
      have m := sense_one (gold_pos (flip a) (flip a'))
      rw [show -w * -v + -p * -q = (w * v + p * q) by grind, show -w * -q + -p * -v + -p * -q = (w * q + p * v + p * q) by grind] at m
      rw [m]; rfl
theorem sense_abs (w p : Int) : senseI w p = 0 ∨ senseI w p = 1 ∨ senseI w p = -1 := by
  rcases sense_cases w p with ⟨_, _, c⟩ | ⟨_, c⟩ | ⟨_, c⟩ <;> simp [c]
end K01

set_option maxRecDepth 100000
set_option maxHeartbeats 1000000
namespace K01
open MI
def GB (w p : Int) : Prop := GS 4000 w p
theorem GB.p {w p : Int} (h : GB w p) : GS 4000 w p := h
theorem gs_mul {n m k : Nat} {w p v q : Int} (h : GS n w p) (h2 : GS m v q) (hk : n + m + 2 ≤ k) : GS k (w * v + p * q) (w * q + p * v + p * q) :=
  ⟨(((h.1.mul h2.1)).add (h.2.mul h2.2)).mono (by omega), ((((h.1.mul h2.2)).add (h.2.mul h2.1)).add ((h.2.mul h2.2).mono (by omega))).mono (by omega)⟩
theorem gs_add {n k : Nat} {w p v q : Int} (h : GS n w p) (h2 : GS n v q) (hk : n + 1 ≤ k) : GS k (w + v) (p + q) := ⟨(h.1.add h2.1).mono hk, (h.2.add h2.2).mono hk⟩
theorem gs_sub {n k : Nat} {w p v q : Int} (h : GS n w p) (h2 : GS n v q) (hk : n + 1 ≤ k) : GS k (w - v) (p - q) := ⟨(h.1.sub h2.1).mono hk, (h.2.sub h2.2).mono hk⟩
theorem gs_neg {n : Nat} {w p : Int} (h : GS n w p) : GS n (-w) (-p) := ⟨h.1.neg, h.2.neg⟩
theorem gs_mono {n k : Nat} {w p : Int} (h : GS n w p) (hk : n ≤ k) : GS k w p := ⟨h.1.mono hk, h.2.mono hk⟩
theorem gadd {k : Nat} (hk : 4 ≤ k) (b : Nat) (w p v q : Int) (μ : Store) : op2 P (callN P k) b .add (gold w p) (gold v q) μ = .ok (gold (w + v) (p + q)) μ := by
  have e := add_ hk b w p v q μ
  unfold gold at *
  rw [op2_ins P _ b .add 0 0 11 _ _ μ rfl rfl, e]; rfl
theorem gsub {k : Nat} (hk : 4 ≤ k) (b : Nat) (w p v q : Int) (μ : Store) : op2 P (callN P k) b .sub (gold w p) (gold v q) μ = .ok (gold (w - v) (p - q)) μ := by
  have e := sub_ hk b w p v q μ
  unfold gold at *
  rw [op2_ins P _ b .sub 0 1 12 _ _ μ rfl rfl, e]; rfl
theorem gmul {k : Nat} (hk : 4 ≤ k) (b : Nat) (w p v q : Int) (μ : Store) (h : GB w p) (h2 : GB v q) : op2 P (callN P k) b .mul (gold w p) (gold v q) μ = .ok (gold (w * v + p * q) (w * q + p * v + p * q)) μ := by
  have e := mul_ hk b w p v q μ h h2 (by omega) (by omega)
  unfold gold at *
  rw [op2_ins P _ b .mul 0 2 13 _ _ μ rfl rfl, e]; rfl
theorem gneg {k : Nat} (hk : 4 ≤ k) (b : Nat) (w p : Int) (μ : Store) : negC P (callN P k) b (gold w p) μ = .ok (gold (-w) (-p)) μ := by
  have e := neg_ hk b w p μ
  unfold gold at *
  rw [negC_ins P _ b 0 14 _ μ rfl, e]; rfl
theorem geq {k : Nat} (hk : 4 ≤ k) (b : Nat) (w p v q : Int) (μ : Store) : cmp2 P (callN P k) b .eq (gold w p) (gold v q) μ = .ok (.bl (decide (w = v) && decide (p = q))) μ := by
  have e := eq_ (show 1 ≤ k by omega) b w p v q μ
  unfold gold at *
  rw [cmp2_eqI P _ b 0 16 _ _ μ rfl rfl, e]; rfl
theorem gne {k : Nat} (hk : 4 ≤ k) (b : Nat) (w p v q : Int) (μ : Store) : cmp2 P (callN P k) b .ne (gold w p) (gold v q) μ = .ok (.bl (!(decide (w = v) && decide (p = q)))) μ := by
  have e := eq_ (show 1 ≤ k by omega) b w p v q μ
  unfold gold at *
  rw [cmp2_neI P _ b 0 16 _ _ μ rfl rfl, e]; rfl
theorem gnorm {k : Nat} (hk : 4 ≤ k) (b : Nat) (w p : Int) (μ : Store) (h : GB w p) : attrC P (callN P k) b 9 (gold w p) μ = .ok (.int (w * w + w * p - p * p)) μ := by
  rw [at9, norm_ (by omega) b w p μ h (by omega)]; rfl
theorem gsense {k : Nat} (hk : 4 ≤ k) (b : Nat) (w p : Int) (μ : Store) (h : GB w p) : attrC P (callN P k) b 10 (gold w p) μ = .ok (.int (senseI w p)) μ := by
  rw [at10, sense_ (by omega) b w p μ h (by omega)]; rfl
theorem gless {k : Nat} (hk : 4 ≤ k) (b : Nat) (w p : Int) (μ : Store) (q : Store → R (List D)) : methC P (callN P k) b 11 (gold w p) μ q = (q μ).bind fun vs μ2 => callN P k b 15 (gold w p :: vs) μ2 := by
  unfold gold
  exact methC_ins P _ b 11 0 15 _ μ q rfl
theorem gless' {k : Nat} (hk : 4 ≤ k) (b : Nat) (w p v q : Int) (μ : Store) (h : GB w p) (h2 : GB v q) : callN P k b 15 [gold w p, gold v q] μ = .ok (.bl (decide (senseI (w - v) (p - q) < 0))) μ := less_ (by omega) b w p v q μ h h2 (by omega)
theorem gbool {k : Nat} (hk : 4 ≤ k) (b : Nat) (w p : Int) (μ : Store) : biC P (callN P k) b .bool [gold w p] μ = .ok (.bl (!decide (w = 0) || !decide (p = 0))) μ := by
  have e := bool_ (show 1 ≤ k by omega) b w p μ
  unfold gold at *
  unfold biC
  simp only [meth_0_5, n_Bool]
  rw [e]; rfl
theorem tup2_1 (a c : D) (μ : Store) : idxC (.tup [a, c]) (.int 0) μ = .ok a μ := rfl
theorem tup2_2 (a c : D) (μ : Store) : idxC (.tup [a, c]) (.int 1) μ = .ok c μ := rfl
def B60 (i : Int) : Prop := i.natAbs < 10 ^ 60
theorem b60 {w p : Int} (h : B60 w) (h2 : B60 p) : GS 200 w p := by
  have e : 10 ^ 60 < 2 ^ 200 := by decide
  exact ⟨Nat.lt_trans h e, Nat.lt_trans h2 e⟩
theorem ops_ {k : Nat} (hk : 20 ≤ k) (b : Nat) (a0 a1 b0 b1 c0 c1 : Int) (μ : Store) (h1 : B60 a0) (h2 : B60 a1) (h3 : B60 b0) (h4 : B60 b1) (h5 : B60 c0) (h6 : B60 c1) :
    callN P k b 4 [.tup [.int a0, .int a1], .tup [.int b0, .int b1], .tup [.int c0, .int c1]] μ = .ok (.bl true) μ := by
  have ga := b60 h1 h2
  have gb := b60 h3 h4
  have gc := b60 h5 h6
  have k5 : 5 ≤ k - 1 := by omega
  have k4 : 4 ≤ k - 1 := by omega
  have k2 : 2 ≤ k - 1 := by omega
  have k1 : 1 ≤ k - 1 := by omega
  have A : GB a0 a1 := gs_mono ga (by omega)
  have B : GB b0 b1 := gs_mono gb (by omega)
  have C : GB c0 c1 := gs_mono gc (by omega)
  have AB : GB _ _ := gs_mul ga gb (k := 4000) (by omega)
  have AC : GB _ _ := gs_mul ga gc (k := 4000) (by omega)
  have BC : GB _ _ := gs_mul gb gc (k := 4000) (by omega)
  have ApB : GB _ _ := gs_add ga gb (k := 4000) (by omega)
  have NA : GB _ _ := gs_mono (gs_neg ga) (show 200 ≤ 4000 by omega)
  have G1 : GB 0 1 := ⟨by unfold Sz; decide +kernel, by unfold Sz; decide +kernel⟩
  have AG : GB _ _ := gs_mul ga (show GS 1 0 1 from ⟨by unfold Sz; decide, by unfold Sz; decide⟩) (k := 4000) (by omega)
  rw [callN_at P b (d := d4) (vs := [.tup [.int a0, .int a1], .tup [.int b0, .int b1], .tup [.int c0, .int c1]]) (by omega) rfl rfl]
  have AG' := AG
  simp only [Int.mul_zero, Int.mul_one, Int.zero_add, Int.add_zero] at AG'
  have gold0 : new P (callN P (k - 1)) 0 [.int 0] μ = .ok (gold 0 0) μ := gold1_ k5 0 μ (by decide)
  have gold01 : new P (callN P (k - 1)) 0 [.int 0, .int 1] μ = .ok (gold 0 1) μ := gold_ k5 0 1 μ (by decide) (by decide)
  have nn : ∀ {w p v q : Int}, GB w p → GB v q → opI .mul (w * w + w * p - p * p) (v * v + v * q - q * q) = some ((w * w + w * p - p * p) * (v * v + v * q - q * q)) := fun {w p v q} h h' => by
    have e : ∀ {w p : Int}, GB w p → Sz 9000 (w * w + w * p - p * p) := fun {w p} h => ((((h.1.mul h.1)).add (h.1.mul h.2)).sub ((h.2.mul h.2).mono (show 8000 ≤ 8001 by omega))).mono (by omega)
    exact mulo (e h) (e h') (by omega) (by omega)
  have ss : opI .mul (senseI a0 a1) (senseI b0 b1) = some (senseI a0 a1 * senseI b0 b1) := by
    rcases sense_abs a0 a1 with e | e | e <;> rcases sense_abs b0 b1 with e' | e' | e' <;> rw [e, e'] <;> rfl
  simp [d4, ix, gold_ k5 _ _ _ h1 h2, gold_ k5 _ _ _ h3 h4, gold_ k5 _ _ _ h5 h6, gadd k4, gsub k4, gmul k4, gneg k4, pair_ k2, product_ k1 _ _ _ _ _ _ ga gb (show 0 < 200 ∧ 200 ≤ 8000 by omega), gne k4, geq k4, gnorm k4, gsense k4, A, B, C, AB, AC, BC, ApB, NA, G1, AG', gold0, gold01, nn, sense_mul, ss]
  refine ⟨⟨⟨?_, ?_⟩, ?_, ?_⟩, ⟨?_, ?_⟩, ?_, ?_⟩ <;> grind
theorem count3 (x y z : Bool) (μ : Store) : bmC .count (.lst [.bl x, .bl y, .bl z]) [.bl true] μ = .ok (.int (Int.ofNat ((if x then 1 else 0) + (if y then 1 else 0) + (if z then 1 else 0)))) μ := by
  cases x <;> cases y <;> cases z <;> rfl
theorem order_ {k : Nat} (hk : 20 ≤ k) (b : Nat) (a0 a1 b0 b1 c0 c1 : Int) (μ : Store) (h1 : B60 a0) (h2 : B60 a1) (h3 : B60 b0) (h4 : B60 b1) (h5 : B60 c0) (h6 : B60 c1) :
    callN P k b 5 [.tup [.int a0, .int a1], .tup [.int b0, .int b1], .tup [.int c0, .int c1]] μ = .ok (.bl true) μ := by
  have ga := b60 h1 h2
  have gb := b60 h3 h4
  have gc := b60 h5 h6
  have k5 : 5 ≤ k - 1 := by omega
  have k4 : 4 ≤ k - 1 := by omega
  have k2 : 2 ≤ k - 1 := by omega
  have k1 : 1 ≤ k - 1 := by omega
  have A : GB a0 a1 := gs_mono ga (by omega)
  have B : GB b0 b1 := gs_mono gb (by omega)
  have C : GB c0 c1 := gs_mono gc (by omega)
  have CC : GB _ _ := gs_mul gc gc (k := 4000) (by omega)
  have ACC : GB _ _ := gs_mul ga (gs_mul gc gc (k := 402) (by omega)) (k := 4000) (by omega)
  have BCC : GB _ _ := gs_mul gb (gs_mul gc gc (k := 402) (by omega)) (k := 4000) (by omega)
  have ApC : GB _ _ := gs_add ga gc (k := 4000) (by omega)
  have BpC : GB _ _ := gs_add gb gc (k := 4000) (by omega)
  have BmA : GB _ _ := gs_sub gb ga (k := 4000) (by omega)
  have NA : GB _ _ := gs_mono (gs_neg ga) (show 200 ≤ 4000 by omega)
  have NB : GB _ _ := gs_mono (gs_neg gb) (show 200 ≤ 4000 by omega)
  have D1 : GS 2000 (b0 - a0) (b1 - a1) := gs_sub gb ga (by omega)
  rw [callN_at P b (d := d5) (vs := [.tup [.int a0, .int a1], .tup [.int b0, .int b1], .tup [.int c0, .int c1]]) (by omega) rfl rfl]
  have e1 : senseI (a0 - b0) (a1 - b1) = -senseI (b0 - a0) (b1 - a1) := by
    rw [← sense_neg]; congr 1 <;> omega
  have e2 : senseI (a0 + c0 - (b0 + c0)) (a1 + c1 - (b1 + c1)) = -senseI (b0 - a0) (b1 - a1) := by
    rw [← sense_neg]; congr 1 <;> omega
  have e3 : senseI (-b0 - -a0) (-b1 - -a1) = -senseI (b0 - a0) (b1 - a1) := by
    rw [← sense_neg]; congr 1 <;> omega
  have e4 : senseI (a0 * (c0 * c0 + c1 * c1) + a1 * (c0 * c1 + c1 * c0 + c1 * c1) - (b0 * (c0 * c0 + c1 * c1) + b1 * (c0 * c1 + c1 * c0 + c1 * c1))) (a0 * (c0 * c1 + c1 * c0 + c1 * c1) + a1 * (c0 * c0 + c1 * c1) + a1 * (c0 * c1 + c1 * c0 + c1 * c1) - (b0 * (c0 * c1 + c1 * c0 + c1 * c1) + b1 * (c0 * c0 + c1 * c1) + b1 * (c0 * c1 + c1 * c0 + c1 * c1))) = -senseI (b0 - a0) (b1 - a1) * (senseI c0 c1 * senseI c0 c1) := by
    rw [← e1, ← sense_mul c0 c1 c0 c1, ← sense_mul]
    congr 1 <;> grind
  have z0 : senseI 0 0 = 0 := rfl
  simp [d5, ix, gold_ k5 _ _ _ h1 h2, gold_ k5 _ _ _ h3 h4, gold_ k5 _ _ _ h5 h6, gadd k4, gsub k4, gmul k4, gneg k4, gsense_ k2 _ _ _ _ D1, gne k4, geq k4, gsense k4, gless k4, gless' k4, gbool k4, A, B, C, CC, ACC, BCC, ApC, BpC, BmA, NA, NB, e1, e2, e3, e4, bmT, count3, z0]
  have e5 : senseI (-b0 + a0) (-b1 + a1) = -senseI (b0 - a0) (b1 - a1) := by
    rw [← sense_neg]; congr 1 <;> omega
  rw [e5]
  have hz := sense_zero (w := b0 - a0) (p := b1 - a1)
  have hc := sense_zero (w := c0) (p := c1)
  have hq : (a0 = b0 ∧ a1 = b1) ↔ senseI (b0 - a0) (b1 - a1) = 0 := by omega
  have hr : (!decide (c0 = 0) || !decide (c1 = 0)) = !decide (senseI c0 c1 = 0) := by
    by_cases r : c0 = 0 <;> by_cases r2 : c1 = 0 <;> simp [r, r2] at hc ⊢ <;> simp [hc]
  rw [hr]
  simp only [hq]
  rcases sense_abs (b0 - a0) (b1 - a1) with e | e | e <;> rcases sense_abs c0 c1 with f | f | f <;> rw [e, f] <;> decide
end K01

set_option maxRecDepth 100000
set_option maxHeartbeats 1000000
namespace K01
open MI
theorem setA_eq {b j m : Nat} {k : Int} {v : D} {e : Env} {μ : Store} {ds : List D} (hb : b ≤ j) (hj : μ[j]? = some (.lst ds)) (hk : ix ds.length k = some m) : setA b (.ref j) (.int k) v e μ = .nx e (μ.set j (.lst (ds.set m v))) := by
  unfold setA
  simp only [Nat.ble_eq_true_of_le hb, if_true, hj, hk]
theorem idxC_ref {j : Nat} {k : Int} {μ : Store} {ds : List D} (hj : μ[j]? = some (.lst ds)) : idxC (.ref j) (.int k) μ = ofO μ ((ix ds.length k).bind fun m => ds[m]?) := by
  unfold idxC
  simp only [items, hj, Option.bind_some]
theorem st_at {j : Nat} {μ : Store} {o : SO} (h : j < μ.length) : (μ.set j o)[j]? = some o := by simp [h]
/-- a basin in the store -/
def bas (x y n : Int) : SO := .lst [.int x, .int y, .int n]
def In (i : Nat) (μ : Store) (N : Nat) : Prop := ∃ x y n : Int, μ[i]? = some (bas x y n) ∧ 0 ≤ x ∧ 0 ≤ y ∧ y < 2 ^ 61 ∧ 0 ≤ n ∧ n ≤ N
theorem In.lt {i : Nat} {μ : Store} {N : Nat} (h : In i μ N) : i < μ.length := by
  obtain ⟨_, _, _, h, _⟩ := h
  exact (List.getElem?_eq_some_iff.mp h).1
theorem sz_of {n : Nat} {i j : Int} (h0 : 0 ≤ i) (h1 : i < j) (h : j ≤ 2 ^ n) : Sz n i := by
  unfold Sz
  have : ((2 ^ n : Nat) : Int) = 2 ^ n := by rw [Int.natCast_pow]; rfl
  omega
theorem divo {j : Int} (h : 0 < j) (h2 : Sz 300 j) (i : Int) : opI .fdiv i j = some (i / j) := by
  apply opI_fdiv
  unfold divOk
  rw [decide_eq_true h, Bool.true_and]
  have := h2.log (by omega)
  exact Nat.blt_eq.mpr (by omega)
theorem scoop_ {k : Nat} (hk : 1 ≤ k) {b i N : Nat} {μ : Store} {t : Int} (hb : b ≤ i) (h : In i μ N) (hN : N ≤ 100000) (ht : 0 < t) (ht2 : Sz 300 t) :
    ∃ r μ', callN P k b 20 [.ref i, .int t] μ = .ok (.int r) μ' ∧ 0 ≤ r ∧ r < t ∧ In i μ' (N + 1) ∧ μ'.length = μ.length := by
  have hlt := h.lt
  obtain ⟨x, y, n, hi, hx, hy, hy2, hn, hn2⟩ := h
  unfold bas at hi
  have mt : ∀ z, opI .mod z t = some (z % t) := fun z => opI_mod _ _ ht
  have dt := divo ht ht2
  by_cases c : 0 < x
  · refine ⟨x % t, μ.set i (bas (x / t) y n), ?_, Int.emod_nonneg _ (by omega), Int.emod_lt_of_pos _ ht, ⟨x / t, y, n, st_at hlt, Int.ediv_nonneg hx (by omega), hy, hy2, hn, by omega⟩, by simp⟩
    rw [callN_at P b (d := d20) (vs := [.ref i, .int t]) (by omega) rfl rfl]
    simp [d20, idxC_ref hi, ix, c, mt, dt, biC]
    rw [setA_eq (m := 0) hb hi rfl]
    simp [bas]
  · have m1 : ∀ z, opI .mod z 2305843009213693951 = some (z % 2305843009213693951) := fun z => opI_mod _ _ (by decide)
    have m2 : ∀ z, opI .mod z 2305843009213693907 = some (z % 2305843009213693907) := fun z => opI_mod _ _ (by decide)
    have m3 : ∀ z, opI .mod z 2305843009213693921 = some (z % 2305843009213693921) := fun z => opI_mod _ _ (by decide)
    have d8 : ∀ z, opI .fdiv z 8192 = some (z / 8192) := fun z => opI_fdiv _ _ (by decide)
    have s0 : Sz 100 (n + 1) := sz_of (j := 100002) (by omega) (by omega) (by decide)
    have q1 : opI .mul 1000171 (n + 1) = some (1000171 * (n + 1)) := mulo (show Sz 100 1000171 by unfold Sz; decide) s0 (by omega) (by omega)
    have q2 : opI .mul 7307 (n + 1) = some (7307 * (n + 1)) := mulo (show Sz 100 7307 by unfold Sz; decide) s0 (by omega) (by omega)
    have s1 : ∀ z : Int, Sz 61 (z % 2305843009213693951) := fun z => sz_of (Int.emod_nonneg _ (by decide)) (Int.emod_lt_of_pos _ (by decide)) (by decide)
    have s2 : ∀ z : Int, Sz 61 (z % 2305843009213693907) := fun z => sz_of (Int.emod_nonneg _ (by decide)) (Int.emod_lt_of_pos _ (by decide)) (by decide)
    have q3 : ∀ z w : Int, opI .mul (z % 2305843009213693951) (w % 2305843009213693951) = some ((z % 2305843009213693951) * (w % 2305843009213693951)) := fun z w => mulo (s1 z) (s1 w) (by omega) (by omega)
    have q4 : ∀ z w : Int, opI .mul (z % 2305843009213693907) (w % 2305843009213693951) = some ((z % 2305843009213693907) * (w % 2305843009213693951)) := fun z w => mulo (s2 z) (s1 w) (by omega) (by omega)
    have hi2 : (μ.set i (.lst [.int x, .int y, .int (n + 1)]))[i]? = some (.lst [.int x, .int y, .int (n + 1)]) := st_at hlt
    refine ⟨(((y + 1000171 * (n + 1)) % 2305843009213693951 * ((y + 1000171 * (n + 1)) % 2305843009213693951)) % 2305843009213693907 * ((y + 1000171 * (n + 1)) % 2305843009213693951) + 7307 * (n + 1)) % 2305843009213693921 / 8192 % t, μ.set i (bas x y (n + 1)), ?_,
      Int.emod_nonneg _ (show t ≠ 0 by omega), Int.emod_lt_of_pos _ ht, ⟨x, y, n + 1, st_at hlt, hx, hy, hy2, by omega, by omega⟩, by simp⟩
    rw [callN_at P b (d := d20) (vs := [.ref i, .int t]) (by omega) rfl rfl]
    simp [d20, idxC_ref hi, ix, c]
    rw [setA_eq (m := 2) hb hi rfl]
    simp [idxC_ref hi2, ix, mt, m1, m2, m3, d8, q1, q2, q3, q4, biC, bas]
theorem one_of_ {k : Nat} (hk : 2 ≤ k) {b i N : Nat} {μ : Store} {is : List Int} (hb : b ≤ i) (h : In i μ N) (hN : N ≤ 100000) (hl : 0 < is.length) (hl2 : is.length ≤ 1000) :
    ∃ (j : Nat) (hj : j < is.length) (μ' : Store), callN P k b 19 [.ref i, .lst (is.map .int)] μ = .ok (.int is[j]) μ' ∧ In i μ' (N + 1) ∧ μ'.length = μ.length := by
  obtain ⟨r, μ', e, r1, r2, hi, hlen⟩ := scoop_ (k := k - 1) (t := (is.length : Int)) (by omega) hb h hN (by omega) (sz_of (j := 1001) (by omega) (by omega) (by decide))
  have hj : r.toNat < is.length := by omega
  refine ⟨r.toNat, hj, μ', ?_, hi, hlen⟩
  rw [callN_at P b (d := d19) (vs := [.ref i, .lst (is.map .int)]) (by omega) rfl rfl]
  have er : ix is.length r = some r.toNat := by
    unfold ix
    rw [if_pos r1, if_pos r2]
  simp [d19, biC, lenOf, e, er, hj]
theorem number_ {k : Nat} (hk : 3 ≤ k) {b i N : Nat} {μ : Store} (hb : b ≤ i) (h : In i μ N) (hN : N ≤ 90000) :
    ∃ r μ', callN P k b 2 [.ref i] μ = .ok (.int r) μ' ∧ r.natAbs ≤ 10 ^ 59 ∧ In i μ' (N + 2) ∧ μ'.length = μ.length := by
  obtain ⟨j, hj, μ1, e1, h1, l1⟩ := one_of_ (k := k - 1) (is := [2, 3, 9, 40, 1000000000000, 100000000000000000000000000000000000000000000000000000000000]) (by omega) hb h (by omega) (by decide) (by decide)
  generalize hm : ([2, 3, 9, 40, 1000000000000, 100000000000000000000000000000000000000000000000000000000000] : List Int)[j] = m at e1
  have hmb : 2 ≤ m ∧ m ≤ 10 ^ 59 := by
    have : m ∈ ([2, 3, 9, 40, 1000000000000, 100000000000000000000000000000000000000000000000000000000000] : List Int) := by rw [← hm]; exact List.getElem_mem hj
    simp only [List.mem_cons, List.not_mem_nil, or_false] at this
    rcases this with z | z | z | z | z | z <;> subst z <;> decide
  have sm : Sz 200 m := sz_of (j := 10 ^ 59 + 1) (by omega) (by omega) (by decide)
  obtain ⟨r, μ2, e2, r1, r2, h2, l2⟩ := scoop_ (k := k - 1) (t := 2 * m + 1) (by omega) hb h1 (by omega) (by omega) (sz_of (j := 2 * 10 ^ 59 + 2) (by omega) (by omega) (by decide))
  refine ⟨r - m, μ2, ?_, by omega, h2, by omega⟩
  rw [callN_at P b (d := d2) (vs := [.ref i]) (by omega) rfl rfl]
  have p1 : opI .pow 10 12 = some 1000000000000 := rfl
  have p2 : opI .pow 10 59 = some 100000000000000000000000000000000000000000000000000000000000 := rfl
  have q : opI .mul 2 m = some (2 * m) := mulo sz2 sm (by omega) (by omega)
  simp only [List.map_cons, List.map_nil] at e1
  simp [d2, p1, p2, e1, q, e2]
/-! ### a gold near to another one -/
def bodyF : List Sm := [.par 2 3 (.var 3) (.bin .add (.var 2) (.var 3))]
theorem fibs (cf : Nat → Call) (b : Nat) (x y : D) (μ : Store) : ∀ (m j : Nat) (lo l h : Int) (t : Option D), 0 ≤ l → 0 ≤ h → l ≤ 2 ^ j → h ≤ 2 ^ j →
    ∃ l' h' t', 0 ≤ l' ∧ 0 ≤ h' ∧ l' ≤ 2 ^ (j + m) ∧ h' ≤ 2 ^ (j + m) ∧ forN 4 (exL P cf b bodyF) m lo [some x, some y, some (.int l), some (.int h), t, none] μ = .nx [some x, some y, some (.int l'), some (.int h'), t', none] μ
  | 0, j, lo, l, h, t, h1, h2, h3, h4 => ⟨l, h, t, h1, h2, h3, h4, rfl⟩
  | m + 1, j, lo, l, h, t, h1, h2, h3, h4 => by
    have hp := pow_pos' j
    have e1 : (2 : Int) ^ (j + 1) = 2 * 2 ^ j := by rw [Int.pow_succ, Int.mul_comm]
    obtain ⟨l', h', t', r1, r2, r3, r4, r5⟩ := fibs cf b x y μ m (j + 1) (lo + 1) h (l + h) (some (.int lo)) h2 (by omega) (by omega) (by omega)
    rw [show j + 1 + m = j + (m + 1) by omega] at r3 r4
    refine ⟨l', h', t', r1, r2, r3, r4, ?_⟩
    unfold forN
    have e : exL P cf b bodyF ([some x, some y, some (.int l), some (.int h), t, none].set 4 (some (.int lo))) μ = .nx [some x, some y, some (.int h), some (.int (l + h)), some (.int lo), none] μ := by
      simp [bodyF]
    rw [e]
    exact r5
theorem near_ {k : Nat} (hk : 3 ≤ k) {b i N : Nat} {μ : Store} (hb : b ≤ i) (h : In i μ N) (hN : N ≤ 90000) (w p : Int) (hw : w.natAbs + p.natAbs ≤ 10 ^ 40) :
    ∃ v q μ', callN P k b 3 [.ref i, .tup [.int w, .int p]] μ = .ok (.tup [.int v, .int q]) μ' ∧ B60 v ∧ B60 q ∧ In i μ' (N + 2) ∧ μ'.length = μ.length := by
  obtain ⟨r, μ1, e1, r1, r2, h1, l1⟩ := scoop_ (k := k - 1) (t := 40) (by omega) hb h (by omega) (by omega) (by unfold Sz; decide)
  obtain ⟨l', h', t', s1, s2, s3, s4, s5⟩ := fibs (callN P (k - 1)) b (.ref i) (.tup [.int w, .int p]) μ1 r.toNat 0 0 1 1 none (by omega) (by omega) (by decide) (by decide)
  obtain ⟨j, hj, μ2, e2, h2, l2⟩ := one_of_ (k := k - 1) (is := [1, -1]) (by omega) hb h1 (by omega) (by decide) (by decide)
  generalize hm : ([1, -1] : List Int)[j] = m at e2
  have hm2 : m = 1 ∨ m = -1 := by
    have : m ∈ ([1, -1] : List Int) := by rw [← hm]; exact List.getElem_mem hj
    simpa using this
  have hpow : (2 : Int) ^ (0 + r.toNat) ≤ 2 ^ 40 := by
    have : (2 : Nat) ^ (0 + r.toNat) ≤ 2 ^ 40 := Nat.pow_le_pow_right (by decide) (by omega)
    exact_mod_cast this
  have z40 : (2 : Int) ^ 40 = 1099511627776 := by decide
  have sl : Sz 100 l' := sz_of (j := 2 ^ 40 + 1) (by omega) (by omega) (by decide)
  have sh : Sz 100 h' := sz_of (j := 2 ^ 40 + 1) (by omega) (by omega) (by decide)
  have sm : Sz 100 m := by rcases hm2 with z | z <;> subst z <;> unfold Sz <;> decide
  have q1 : opI .mul m l' = some (m * l') := mulo sm sl (by omega) (by omega)
  have q2 : opI .mul m h' = some (m * h') := mulo sm sh (by omega) (by omega)
  simp only [List.map_cons, List.map_nil] at e2
  have rr : r < 4611686018427387904 ∧ -4611686018427387904 ≤ r := by omega
  refine ⟨w + m * h', p - m * l', μ2, ?_, ?_, ?_, h2, by omega⟩
  · rw [callN_at P b (d := d3) (vs := [.ref i, .tup [.int w, .int p]]) (by omega) rfl rfl]
    unfold bodyF at s5
    simp [d3, setT, setTs, lenT, e1, forRC, rr, s5, e2, q1, q2, ix]
  · unfold B60
    rcases hm2 with z | z <;> subst z <;> omega
  · unfold B60
    rcases hm2 with z | z <;> subst z <;> omega
/-! ### a basin -/
theorem basin_ {k : Nat} (hk : 1 ≤ k) (b : Nat) (ns : List Int) (t : Nat) (ht : t ≤ 4) (hns : ns.length ≤ 63) (μ : Store) :
    ∃ x y, callN P k b 1 [.lst (ns.map .int), .int t] μ = .ok (.ref μ.length) (μ ++ [bas x y 0]) ∧ 0 ≤ x ∧ 0 ≤ y ∧ y < 2 ^ 61 := by
  obtain ⟨c, hc⟩ : ∃ c : Int, ∀ e μ', evE P (callN P (k - 1)) μ.length (.ite (.val (.cmp .lt (.var 1) (.bcall .len [(.var 0)]))) (.bcall .int [(.idx (.var 0) (.var 1))]) (.bin .add (.bin .mul (.lit (.int 73)) (.var 1)) (.lit (.int 29)))) (some (.lst (ns.map .int)) :: some (.int t) :: e) μ' = .ok (.int c) μ' := by
    by_cases h : t < ns.length
    · refine ⟨ns[t], fun e μ' => ?_⟩
      have hi : ix ns.length t = some t := by
        unfold ix
        rw [if_pos (by omega), if_pos (by omega)]; simp
      simp [biC, lenOf, h, hi]
    · refine ⟨73 * t + 29, fun e μ' => ?_⟩
      have q : opI .mul 73 (t : Int) = some (73 * t) := mulo (show Sz 100 73 by unfold Sz; decide) (sz_of (n := 100) (j := 5) (by omega) (by omega) (by decide)) (by omega) (by omega)
      simp [biC, lenOf, h, q]
  have p1 : opI .pow 10 57 = some 1000000000000000000000000000000000000000000000000000000000 := rfl
  have p2 : opI .pow 1000000000000000000000000000000000000000000000000000000000 8 = some 1000000000000000000000000000000000000000000000000000000000000000000000000000000000000000000000000000000000000000000000000000000000000000000000000000000000000000000000000000000000000000000000000000000000000000000000000000000000000000000000000000000000000000000000000000000000000000000000000000000000000000000000000000000000000000000000000000000000000000000000000000000000000000000000000000000000000000000000000000000000000000000000000000000000000000000000000 := by decide +kernel
  have p3 : opI .pow 10 17 = some 100000000000000000 := rfl
  have m0 : ∀ z, opI .mod z 1000000000000000000000000000000000000000000000000000000000000000000000000000000000000000000000000000000000000000000000000000000000000000000000000000000000000000000000000000000000000000000000000000000000000000000000000000000000000000000000000000000000000000000000000000000000000000000000000000000000000000000000000000000000000000000000000000000000000000000000000000000000000000000000000000000000000000000000000000000000000000000000000000000000000000000000000 = some (z % 1000000000000000000000000000000000000000000000000000000000000000000000000000000000000000000000000000000000000000000000000000000000000000000000000000000000000000000000000000000000000000000000000000000000000000000000000000000000000000000000000000000000000000000000000000000000000000000000000000000000000000000000000000000000000000000000000000000000000000000000000000000000000000000000000000000000000000000000000000000000000000000000000000000000000000000000000) := fun z => opI_mod _ _ (by decide +kernel)
  have m1 : ∀ z, opI .mod z 1152921504606846869 = some (z % 1152921504606846869) := fun z => opI_mod _ _ (by decide)
  have m2 : ∀ z, opI .mod z 2305843009213693951 = some (z % 2305843009213693951) := fun z => opI_mod _ _ (by decide)
  have q1 : ∀ z : Int, opI .mul (z % 1152921504606846869) 70271 = some (z % 1152921504606846869 * 70271) := fun z => mulo (sz_of (n := 61) (Int.emod_nonneg _ (by decide)) (Int.emod_lt_of_pos _ (by decide)) (by decide)) (show Sz 100 70271 by unfold Sz; decide) (by omega) (by omega)
  have q2 : opI .mul 6781 (t : Int) = some (6781 * (t : Int)) := mulo (show Sz 100 6781 by unfold Sz; decide) (sz_of (n := 100) (j := 5) (by omega) (by omega) (by decide)) (by omega) (by omega)
  have q3 : opI .mul 53 (if c < 0 then 1 else 0) = some (53 * if c < 0 then 1 else 0) := by split <;> rfl
  suffices H : ∃ u v : Int, callN P k b 1 [.lst (ns.map .int), .int t] μ = .ok (.ref μ.length) (μ ++ [bas (if 0 < u then u else 0) (v % 2305843009213693951) 0]) by
    obtain ⟨u, v, H⟩ := H
    exact ⟨_, _, H, by split <;> omega, Int.emod_nonneg _ (by decide), by have := Int.emod_lt_of_pos v (show (0 : Int) < 2305843009213693951 by decide); omega⟩
  refine ⟨(if c < 0 then -c else c) % 1000000000000000000000000000000000000000000000000000000000000000000000000000000000000000000000000000000000000000000000000000000000000000000000000000000000000000000000000000000000000000000000000000000000000000000000000000000000000000000000000000000000000000000000000000000000000000000000000000000000000000000000000000000000000000000000000000000000000000000000000000000000000000000000000000000000000000000000000000000000000000000000000000000000000000000000000 - 100000000000000000 + 1, (if c < 0 then -c else c) % 1000000000000000000000000000000000000000000000000000000000000000000000000000000000000000000000000000000000000000000000000000000000000000000000000000000000000000000000000000000000000000000000000000000000000000000000000000000000000000000000000000000000000000000000000000000000000000000000000000000000000000000000000000000000000000000000000000000000000000000000000000000000000000000000000000000000000000000000000000000000000000000000000000000000000000000000000 % 1152921504606846869 * 70271 + 6781 * (t : Int) + 53 * (if c < 0 then 1 else 0) + 23, ?_⟩
  rw [callN_at P b (d := d1) (vs := [.lst (ns.map .int), .int t]) (by omega) rfl rfl]
  have fresh : ∀ μ' : Store, done true μ (.ref μ.length) μ' = .ok (.ref μ.length) μ' := fun μ' => by
    unfold done
    rw [if_neg]
    simp [D.lt]
  simp only [d1, exL_cons, exL_nil, exS_asg, cond_true]
  rw [show ([D.lst (ns.map .int), D.int t].map some ++ List.replicate (5 - 2) none) = (some (.lst (ns.map .int)) :: some (.int t) :: [none, none, none]) from rfl]
  rw [hc]
  simp [p1, p2, p3, m0, m1, m2, q1, q2, q3, biC, bas, fresh]
end K01

set_option maxRecDepth 100000
set_option maxHeartbeats 1000000
namespace K01
open MI
def bT : List Sm := [.par 4 5 (.tup [(.call 2 [(.var 2)]), (.call 2 [(.var 2)])]) (.tup [(.call 2 [(.var 2)]), (.call 2 [(.var 2)])]), .asg 6 (.ite (.val (.cmp .lt (.bin .add (.bcall .abs [(.idx (.var 4) (.lit (.int 0)))]) (.bcall .abs [(.idx (.var 4) (.lit (.int 1)))])) (.bin .pow (.lit (.int 10)) (.lit (.int 40))))) (.call 3 [(.var 2), (.var 4)]) (.var 5)), .ifs (.or [(.not (.val (.call 4 [(.var 4), (.var 5), (.var 6)]))), (.not (.val (.call 5 [(.var 4), (.var 5), (.var 6)])))]) [.ret (.lit (.bl false))] [], .ifs (.or [(.not (.val (.call 5 [(.var 4), (.var 6), (.var 5)]))), (.not (.val (.call 5 [(.var 6), (.var 5), (.var 4)])))]) [.ret (.lit (.bl false))] []]
theorem turn_ {i N : Nat} {μ : Store} (h : In i μ N) (hN : N ≤ 80000) (s a : D) (t f g x y z : Option D) :
    ∃ f' g' x' μ', exL P (callN P 20) 0 bT [some s, some a, some (.ref i), t, f, g, x, y, z] μ = .nx [some s, some a, some (.ref i), t, f', g', x', y, z] μ' ∧ In i μ' (N + 10) ∧ μ'.length = μ.length := by
  have hb : 0 ≤ i := Nat.zero_le _
  obtain ⟨a0, μ1, e1, l1, h1, n1⟩ := number_ (k := 20) (by omega) hb h (by omega)
  obtain ⟨a1, μ2, e2, l2, h2, n2⟩ := number_ (k := 20) (by omega) hb h1 (by omega)
  obtain ⟨b0, μ3, e3, l3, h3, n3⟩ := number_ (k := 20) (by omega) hb h2 (by omega)
  obtain ⟨b1, μ4, e4, l4, h4, n4⟩ := number_ (k := 20) (by omega) hb h3 (by omega)
  have B : ∀ {j : Int}, j.natAbs ≤ 10 ^ 59 → B60 j := fun {j} q => by unfold B60; omega
  have p1 : opI .pow 10 40 = some 10000000000000000000000000000000000000000 := rfl
  by_cases c : (if a0 < 0 then -a0 else a0) + (if a1 < 0 then -a1 else a1) < 10000000000000000000000000000000000000000
  · obtain ⟨c0, c1, μ5, e5, l5, l6, h5, n5⟩ := near_ (k := 20) (by omega) hb h4 (by omega) a0 a1 (by split at c <;> split at c <;> omega)
    refine ⟨some (.tup [.int a0, .int a1]), some (.tup [.int b0, .int b1]), some (.tup [.int c0, .int c1]), μ5, ?_, h5.elim fun x q => ?_, by omega⟩
    · simp [bT, e1, e2, e3, e4, biC, ix, p1, c, e5, ops_ (k := 20) (by omega) 0 _ _ _ _ _ _ μ5 (B l1) (B l2) (B l3) (B l4) l5 l6, order_ (k := 20) (by omega) 0 _ _ _ _ _ _ μ5 (B l1) (B l2) (B l3) (B l4) l5 l6,
        order_ (k := 20) (by omega) 0 _ _ _ _ _ _ μ5 (B l1) (B l2) l5 l6 (B l3) (B l4), order_ (k := 20) (by omega) 0 _ _ _ _ _ _ μ5 l5 l6 (B l3) (B l4) (B l1) (B l2)]
    · obtain ⟨y, n, q1, q2, q3, q4, q5, q6⟩ := q
      exact ⟨x, y, n, q1, q2, q3, q4, q5, by omega⟩
  · refine ⟨some (.tup [.int a0, .int a1]), some (.tup [.int b0, .int b1]), some (.tup [.int b0, .int b1]), μ4, ?_, h4.elim fun x q => ?_, by omega⟩
    · simp [bT, e1, e2, e3, e4, biC, ix, p1, c, ops_ (k := 20) (by omega) 0 _ _ _ _ _ _ μ4 (B l1) (B l2) (B l3) (B l4) (B l3) (B l4), order_ (k := 20) (by omega) 0 _ _ _ _ _ _ μ4 (B l1) (B l2) (B l3) (B l4) (B l3) (B l4),
        order_ (k := 20) (by omega) 0 _ _ _ _ _ _ μ4 (B l3) (B l4) (B l3) (B l4) (B l1) (B l2)]
    · obtain ⟨y, n, q1, q2, q3, q4, q5, q6⟩ := q
      exact ⟨x, y, n, q1, q2, q3, q4, q5, by omega⟩
theorem turns_ (s a : D) (i : Nat) (y z : Option D) : ∀ (m N : Nat) (lo : Int) (μ : Store) (t f g x : Option D), In i μ N → N + 10 * m ≤ 80000 →
    ∃ t' f' g' x' μ', forN 3 (exL P (callN P 20) 0 bT) m lo [some s, some a, some (.ref i), t, f, g, x, y, z] μ = .nx [some s, some a, some (.ref i), t', f', g', x', y, z] μ' ∧ μ'.length = μ.length
  | 0, N, lo, μ, t, f, g, x, _, _ => ⟨t, f, g, x, μ, rfl, rfl⟩
  | m + 1, N, lo, μ, t, f, g, x, h, hN => by
    obtain ⟨f1, g1, x1, μ1, e1, h1, n1⟩ := turn_ h (by omega) s a (some (.int lo)) f g x y z
    obtain ⟨t2, f2, g2, x2, μ2, e2, n2⟩ := turns_ s a i y z m (N + 10) (lo + 1) μ1 (some (.int lo)) f1 g1 x1 h1 (by omega)
    refine ⟨t2, f2, g2, x2, μ2, ?_, by omega⟩
    unfold forN
    rw [show ([some s, some a, some (.ref i), t, f, g, x, y, z] : Env).set 3 (some (.int lo)) = [some s, some a, some (.ref i), some (.int lo), f, g, x, y, z] from rfl, e1]
    exact e2
def bC : List Sm := [.asg 2 (.call 1 [(.var 0), (.var 1)]), .forR 3 (.lit (.int 3)) bT]
theorem cell_ (ns : List Int) (hns : ns.length ≤ 63) (at_ : Nat) (ha : at_ ≤ 4) (μ : Store) (q t f g x y z : Option D) :
    ∃ q' t' f' g' x' μ', exL P (callN P 20) 0 bC [some (.lst (ns.map .int)), some (.int at_), q, t, f, g, x, y, z] μ = .nx [some (.lst (ns.map .int)), some (.int at_), q', t', f', g', x', y, z] μ' := by
  obtain ⟨u, v, e, h1, h2, h3⟩ := basin_ (k := 20) (by omega) 0 ns at_ ha hns μ
  have hi : In μ.length (μ ++ [bas u v 0]) 0 := ⟨u, v, 0, by simp, h1, h2, h3, by omega, by omega⟩
  obtain ⟨t', f', g', x', μ', e2, _⟩ := turns_ (.lst (ns.map .int)) (.int at_) μ.length y z 3 0 0 (μ ++ [bas u v 0]) t f g x hi (by omega)
  refine ⟨some (.ref μ.length), t', f', g', x', μ', ?_⟩
  simp [bC, e, forRC, e2]
theorem cells_ (ns : List Int) (hns : ns.length ≤ 63) (y z : Option D) : ∀ (m at_ : Nat) (μ : Store) (o q t f g x : Option D), at_ + m ≤ 5 →
    ∃ o' q' t' f' g' x' μ', forN 1 (exL P (callN P 20) 0 bC) m at_ [some (.lst (ns.map .int)), o, q, t, f, g, x, y, z] μ = .nx [some (.lst (ns.map .int)), o', q', t', f', g', x', y, z] μ'
  | 0, at_, μ, o, q, t, f, g, x, _ => ⟨o, q, t, f, g, x, μ, rfl⟩
  | m + 1, at_, μ, o, q, t, f, g, x, h => by
    obtain ⟨q1, t1, f1, g1, x1, μ1, e1⟩ := cell_ ns hns at_ (by omega) μ q t f g x y z
    obtain ⟨o2, q2, t2, f2, g2, x2, μ2, e2⟩ := cells_ ns hns y z m (at_ + 1) μ1 (some (.int at_)) q1 t1 f1 g1 x1 (by omega)
    refine ⟨o2, q2, t2, f2, g2, x2, μ2, ?_⟩
    unfold forN
    rw [show ([some (.lst (ns.map .int)), o, q, t, f, g, x, y, z] : Env).set 1 (some (.int at_)) = [some (.lst (ns.map .int)), some (.int at_), q, t, f, g, x, y, z] from rfl, e1]
    exact e2
def bZ : List Sm := [
  .asg 7 (.new 0 [(.lit (.int 0)), (.lit (.int 1))]),
  .ifs (.or [(.val (.cmp .ne (.bin .mul (.var 7) (.var 7)) (.bin .add (.var 7) (.new 0 [(.lit (.int 1))])))), (.not (.val (.meth 11 (.new 0 [(.lit (.int 1))]) [(.var 7)]))), (.not (.val (.meth 11 (.var 7) [(.new 0 [(.lit (.int 2))])])))]) [.ret (.lit (.bl false))] [],
  .asg 8 (.lst false [(.attr 10 (.new 0 [(.lit (.int 13)), (.neg (.lit (.int 8)))])), (.attr 10 (.new 0 [(.neg (.lit (.int 21))), (.lit (.int 13))])), (.meth 11 (.new 0 [(.lit (.int 55)), (.neg (.lit (.int 34)))]) [(.new 0 [(.lit (.int 0))])]), (.attr 10 (.new 0 [(.neg (.lit (.int 1))), (.lit (.int 1))]))]),
  .ret (.cmp .eq (.var 8) (.lst false [(.lit (.int 1)), (.lit (.int 1)), (.lit (.bl true)), (.lit (.int 1))]))]
theorem tail_ (a b c d e f g : Option D) (μ : Store) : exL P (callN P 20) 0 bZ [a, b, c, d, e, f, g, none, none] μ = .rt (.bl true) μ := by
  have k5 : 5 ≤ 20 := by omega
  have k4 : 4 ≤ 20 := by omega
  have G1 : GB 0 1 := ⟨by unfold Sz; decide +kernel, by unfold Sz; decide +kernel⟩
  have gg : ∀ {w p : Int}, w.natAbs < 1000 → p.natAbs < 1000 → GB w p := fun {w p} h1 h2 => by
    have e : 1000 < 2 ^ 4000 := by decide +kernel
    exact ⟨Nat.lt_trans h1 e, Nat.lt_trans h2 e⟩
  have w01 : ∀ μ : Store, new P (callN P 20) 0 [.int 0, .int 1] μ = .ok (gold 0 1) μ := fun μ => gold_ k5 0 1 μ (by decide) (by decide)
  have w1 : ∀ μ : Store, new P (callN P 20) 0 [.int 1] μ = .ok (gold 1 0) μ := fun μ => gold1_ k5 1 μ (by decide)
  have w2 : ∀ μ : Store, new P (callN P 20) 0 [.int 2] μ = .ok (gold 2 0) μ := fun μ => gold1_ k5 2 μ (by decide)
  have w0 : ∀ μ : Store, new P (callN P 20) 0 [.int 0] μ = .ok (gold 0 0) μ := fun μ => gold1_ k5 0 μ (by decide)
  have wa : ∀ μ : Store, new P (callN P 20) 0 [.int 13, .int (-8)] μ = .ok (gold 13 (-8)) μ := fun μ => gold_ k5 13 (-8) μ (by decide) (by decide)
  have wb : ∀ μ : Store, new P (callN P 20) 0 [.int (-21), .int 13] μ = .ok (gold (-21) 13) μ := fun μ => gold_ k5 (-21) 13 μ (by decide) (by decide)
  have wc : ∀ μ : Store, new P (callN P 20) 0 [.int 55, .int (-34)] μ = .ok (gold 55 (-34)) μ := fun μ => gold_ k5 55 (-34) μ (by decide) (by decide)
  have wd : ∀ μ : Store, new P (callN P 20) 0 [.int (-1), .int 1] μ = .ok (gold (-1) 1) μ := fun μ => gold_ k5 (-1) 1 μ (by decide) (by decide)
  have s1 : senseI 13 (-8) = 1 := by decide
  have s2 : senseI (-21) 13 = 1 := by decide
  have s3 : senseI 55 (-34) = -1 := by decide
  have s4 : senseI (-1) 1 = 1 := by decide
  have s5 : senseI 1 (-1) = -1 := by decide
  have s6 : senseI (-2) 1 = -1 := by decide
  have L : ∀ {w p v q : Int} {μ : Store}, w.natAbs < 1000 → p.natAbs < 1000 → v.natAbs < 1000 → q.natAbs < 1000 → callN P 20 0 15 [gold w p, gold v q] μ = .ok (.bl (decide (senseI (w - v) (p - q) < 0))) μ := fun {w p v q μ} a b c d => gless' k4 0 w p v q μ (gg a b) (gg c d)
  have S : ∀ {w p : Int} {μ : Store}, w.natAbs < 1000 → p.natAbs < 1000 → attrC P (callN P 20) 0 10 (gold w p) μ = .ok (.int (senseI w p)) μ := fun {w p μ} a b => gsense k4 0 w p μ (gg a b)
  have de : deq (.lst [.int 1, .int 1, .bl true, .int 1]) (.lst [.int 1, .int 1, .bl true, .int 1]) = some true := by decide +kernel
  have cm : ∀ μ : Store, cmp2 P (callN P 20) 0 .eq (.lst [.int 1, .int 1, .bl true, .int 1]) (.lst [.int 1, .int 1, .bl true, .int 1]) μ = .ok (.bl true) μ := fun μ => by
    show ofO μ ((deq (.lst [.int 1, .int 1, .bl true, .int 1]) (.lst [.int 1, .int 1, .bl true, .int 1])).map D.bl) = _
    rw [de]; rfl
  simp [bZ, w01, w1, w2, w0, wa, wb, wc, wd, gadd k4, gmul k4, gne k4, gless k4, L, S, G1, s1, s2, s3, s4, s5, s6, cm]
theorem d0_body : d0.body = .forR 1 (.bcall .max [(.lit (.int 1)), (.bcall .min [(.lit (.int 4)), (.bcall .len [(.var 0)])])]) bC :: bZ := rfl
theorem plain (ns : List Int) (h : ns.length ≤ 63) : ∃ μ, callN P (20 + 1) 0 0 [.lst (ns.map D.int)] [] = .ok (.bl true) μ := by
  have hn : ∃ n : Nat, n ≤ 4 ∧ ∀ e μ, evE P (callN P 20) 0 (.bcall .max [(.lit (.int 1)), (.bcall .min [(.lit (.int 4)), (.bcall .len [(.var 0)])])]) (some (.lst (ns.map .int)) :: e) μ = .ok (.int n) μ := by
    by_cases c : ns.length < 4
    · by_cases d : 1 < ns.length
      · refine ⟨ns.length, by omega, fun e μ => ?_⟩
        simp [biC, lenOf, c, d, show (ns.length : Int) < 4 by omega, show (1 : Int) < ns.length by omega]
      · refine ⟨1, by omega, fun e μ => ?_⟩
        simp [biC, lenOf, c, d, show (ns.length : Int) < 4 by omega, show ¬ (1 : Int) < ns.length by omega]
    · refine ⟨4, by omega, fun e μ => ?_⟩
      simp [biC, lenOf, c, show ¬ (ns.length : Int) < 4 by omega]
  obtain ⟨n, n4, hn⟩ := hn
  obtain ⟨o', q', t', f', g', x', μ', e⟩ := cells_ ns h none none n 0 [] none none none none none none (by omega)
  refine ⟨μ', ?_⟩
  rw [callN_eq P 0 (d := d0) (vs := [.lst (ns.map .int)]) rfl rfl, d0_body, exL_cons, exS_forR]
  rw [show ([D.lst (ns.map .int)].map some ++ List.replicate (d0.ns - d0.np) none : Env) = some (.lst (ns.map .int)) :: [none, none, none, none, none, none, none, none] from rfl]
  rw [show (bif d0.pure then ([] : Store).length else 0) = 0 from rfl, hn, go_ok]
  have e' : forRC 1 (exL P (callN P 20) 0 bC) (.int n) [some (.lst (ns.map .int)), none, none, none, none, none, none, none, none] [] = .nx [some (.lst (ns.map .int)), o', q', t', f', g', x', none, none] μ' := by
    have h1 : (n : Int) < 4611686018427387904 := by omega
    have h2 : -4611686018427387904 ≤ (n : Int) := by omega
    simp only [forRC, h1, h2, decide_true, Bool.and_self, if_true, Int.toNat_natCast]
    rw [show (((0 : Nat) : Int)) = 0 from rfl] at e
    exact e
  rw [e', then_nx, tail_]
  rfl
end K01

set_option maxRecDepth 100000
set_option maxHeartbeats 0
namespace K01
open PySem PySem.Spec PyProof.Rows L2
abbrev R : PySem.W.OpenRow := PySem.W.OpenLaw.row PySem.Challenge.rw_underwords_k01_whole_golds_reckoned_and
abbrev hk : PySem.W.Hook := MS.hookM 5 T
def ob (s : PySem.W.SharedT) : MS.AlM := MS.obsMG 5 T (HandSHeadRun.getT s)
theorem ob_eq (s : PySem.W.SharedT) : ob s = hk.obs s.abs := MS.obsMG_eq (HandSHeadRun.getT_eq s)
theorem run (w : World) : HandSHeadRun.RunEq R (PySem.W.view R.prog [ilaw]) hk ob 20000 loose w := by
  intro os
  kernel_rfl
theorem ha {K : PySem.W.Frag} {h : Heap} {mg : Str → Option Value} {a : Addr} (X : K.In h) (N : h.Ns mainGlobals mg) (c : MS.SaysM T K) (hm : mg ("law" : Str) = some (.ref a)) : T.fa K 0 = a := by
  have F : MS.Facts K mg (T.fa K) (T.ca K) T.P T.G := MS.factsB_ok X N (MS.band (show (MS.factsB K (T.fa K) (T.ca K) T.P T.G && MS.allMd K T) = true from congrArg (fun z : MS.AlM => z.1) c)).1
  have e := (F.fn 0 ("law" : Str) rfl).1
  rw [hm] at e
  cases e; rfl

end K01
open PySem PySem.W PySem.Calls PyProof.Rows
theorem PySem.Challenge.cw_underwords_k01_whole_golds_reckoned_and_holds : PySem.Challenge.rw_underwords_k01_whole_golds_reckoned_and.Holds := by
  w_on; o_law
  refine HandSHeadRun.head_any (r := OpenLaw.row PySem.Challenge.rw_underwords_k01_whole_golds_reckoned_and) (q := view (OpenLaw.row PySem.Challenge.rw_underwords_k01_whole_golds_reckoned_and).prog [K01.ilaw]) (H := K01.hk) (ob := K01.ob) (M := 20000) (loose := K01.loose) (d := HandSHeadRun.topDef (OpenLaw.row PySem.Challenge.rw_underwords_k01_whole_golds_reckoned_and).prog K01.ilaw) (kwd := []) K01.ob_eq
    (by kernel_rfl) (fun s => by kernel_rfl) K01.run (by kernel_rfl) (by kernel_rfl) (by kernel_rfl) (by rfl) (by first | assumption | decide +kernel) (by decide +kernel) ⟨rfl, rfl, rfl, rfl, rfl, by decide +kernel⟩ ?hw ?hc
  case hw => w_witness2
  case hc =>
    refine L2.walk_ofE (l := PySem.Challenge.rw_underwords_k01_whole_golds_reckoned_and) (n := 63) (k := 4 * 20 + 4) (x := "_law_script") (CX := MS.CXA) rfl (by decide) (by kernel_rfl) ⟨rfl, by decide, by decide⟩ ?F (fun _ _ _ _ z => MS.law_noex z)
    intro w mg fa h Y G hmg0
    obtain ⟨K, KX, c⟩ := Y
    have hmg : mg ("law" : PySem.Str) = some (.ref fa) := by
      have e : (HandSHeadRun.topDef (OpenLaw.row PySem.Challenge.rw_underwords_k01_whole_golds_reckoned_and).prog K01.ilaw).name = ("law" : PySem.Str) := by kernel_rfl
      rw [← e]
      exact hmg0
    obtain ⟨fd, sp, hb, hsp, hF⟩ := MS.law_end (T := K01.T) (k := 20) (f := 0) (n := 63) (lx := "_law_script") (m := K01.m0) (d := K01.d0) (prog := (PySem.Challenge.rw_underwords_k01_whole_golds_reckoned_and).prog) (w := w) K01.txts rfl rfl (by kernel_rfl) rfl K01.plain KX G c (K01.ha KX G c hmg)
    exact ⟨K, fd, sp, KX, hb, hsp, hF⟩
