import PyProof.Rows.All
import PySem.Syntax
import PySem.PyData
import HandS.ForMost
import HandS.ForExc
import HandS.Walk
import HandS.Flow
import HandS.IsInst
import HandS.TupAny
import HandS.CallSlots
import HandS.Words
import PyProof.ReprLen
import PySem.Challenge.RW_factsandfar_k01_concepts_and_axioms
set_option linter.all false
set_option maxRecDepth 100000
set_option Elab.async false
set_option autoImplicit false
/-! VL1: data, slots, the small language, its evaluator (no machine in sight). -/
namespace VL
open PySem

/-- data as trees -/
inductive D where
  | non | bl (b : Bool) | int (i : Int) | str (s : Str)
  | tup (xs : List D) | lst (xs : List D) | dct (kvs : List (D × D))
  deriving Inhabited

/-- what stands at a name: nothing, frozen data, an object of one's own, the same while it is walked -/
inductive Slot where
  | un | fz (d : D) | ow (d : D) | lk (d : D)
  deriving Inhabited

abbrev Env := List Slot

inductive Out (α : Type) where
  | ok (a : α) (r : Env)
  | err (c : Nat) (fs : List D) (r : Env)
  | stk

@[reducible] def Out.bind {α β : Type} (x : Out α) (f : α → Env → Out β) : Out β :=
  match x with
  | .ok a r => f a r
  | .err c fs r => .err c fs r
  | .stk => .stk
def Out.nox {α : Type} (x : Out α) : Out α :=
  match x with
  | .ok a r => .ok a r
  | _ => .stk
def Out.of {α : Type} (o : Option α) (r : Env) : Out α :=
  match o with
  | some a => .ok a r
  | none => .stk

/-- what a call gives -/
inductive CR where
  | ok (d : D) (outs : List D)
  | err (c : Nat) (fs outs : List D)
  | stk

inductive Ty where
  | str | tuple | list | int | bool | dict
  deriving DecidableEq
inductive Op where
  | tup | lst | isi (t : Ty) | len | all | any | eq | ne | lt | le | gt | ge | isin | notin | isN | notN
  | add | sub | mul | mod | fdiv | pow | neg | not_ | max2 | min2 | toInt | ix | sl (lo hi : Bool) | slrev | toList | toTuple | repr
  | range1 | range2 | enum
  deriving DecidableEq
inductive MOp where
  | append | insert | extend | seti | popAt
  deriving DecidableEq
inductive CK where
  | list
  deriving DecidableEq

inductive MG where
  | sl (j : Nat) | nil | cons (a r : MG) | tup (g : MG)

inductive ME where
  | kst (d : D)
  | glb (i : Nat)
  | nm (j : Nat)
  | cap (j : Nat)
  | nil
  | cons (a r : ME)
  | op (o : Op) (a : ME)
  | chain (o1 o2 : Op) (ab c : ME)
  | and_ (a b : ME)
  | or_ (a b : ME)
  | ite (c a b : ME)
  | call (f : Nat) (sl : List Nat) (a : ME)
  | mop (o : MOp) (j : Nat) (a : ME)
  | comp (own : List Nat) (tg : MG) (it c e : ME)

inductive MS where
  | nil
  | seq (s r : MS)
  | asg (g : MG) (e : ME)
  | par (i j : Nat) (a b : ME)
  | expr (e : ME)
  | aug (o : Op) (j : Nat) (e : ME)
  | seti (j : Nat) (k v : ME)
  | ret (e : ME)
  | retN
  | ife (c : ME) (a b : MS)
  | for_ (tg : MG) (it : ME) (body : MS)
  | whl (fuel : Nat) (c : ME) (body : MS)
  | brk | cont | pass
  | raise (c : Nat) (a : ME)
  | try_ (body : MS) (c : Nat) (x : Option Nat) (h : MS)

inductive Fl where
  | nx | ret (d : D) | bk | ct

/-! ### data -/
def D.toP : D → PyData
  | .non => .none
  | .bl b => .bool b
  | .int i => .int i
  | .str s => .str s
  | .tup xs => .tuple (toPs xs)
  | .lst xs => .list (toPs xs)
  | .dct kvs => .dict (toPd kvs)
where
  toPs : List D → List PyData
    | [] => []
    | d :: r => D.toP d :: toPs r
  toPd : List (D × D) → List (PyData × PyData)
    | [] => []
    | (k, v) :: r => (D.toP k, D.toP v) :: toPd r

def b2i (b : Bool) : Int := if b then 1 else 0

/-- Python's == (dicts: see eqOk) -/
def D.eq : D → D → Bool
  | .non, .non => true
  | .bl a, .bl b => a == b
  | .bl a, .int j => b2i a == j
  | .int i, .bl b => i == b2i b
  | .int i, .int j => i == j
  | .str s, .str t => s == t
  | .tup xs, .tup ys => eqs xs ys
  | .lst xs, .lst ys => eqs xs ys
  | .dct xs, .dct ys => xs.isEmpty && ys.isEmpty
  | _, _ => false
where
  eqs : List D → List D → Bool
    | [], [] => true
    | x :: xs, y :: ys => D.eq x y && eqs xs ys
    | _, _ => false
/-- no dict within -/
def D.flat : D → Bool
  | .tup xs => flats xs
  | .lst xs => flats xs
  | .dct _ => false
  | _ => true
where
  flats : List D → Bool
    | [] => true
    | d :: r => D.flat d && flats r

def line : Nat := 16777216
/-- how deep -/
def D.dep : D → Nat
  | .tup xs => deps xs + 1
  | .lst xs => deps xs + 1
  | .dct _ => 1
  | _ => 0
where
  deps : List D → Nat
    | [] => 0
    | d :: r => max (D.dep d) (deps r)
def D.cmp (d : D) : Bool := d.flat && decide (d.dep ≤ 60)

def D.tru : D → Option Bool
  | .non => some false
  | .bl b => some b
  | .int i => some (i != 0)
  | .str s => if s.length ≤ line then some (s.length != 0) else none
  | .tup xs => some !xs.isEmpty
  | .lst xs => some !xs.isEmpty
  | .dct kvs => some !kvs.isEmpty
def D.isNon : D → Bool
  | .non => true
  | _ => false
def D.mutb : D → Bool
  | .lst _ => true
  | .dct _ => true
  | _ => false
def mkSlot (d : D) : Slot := if d.mutb then .ow d else .fz d

/-- an index -/
def ixD {α : Type} (xs : List α) (i : Int) : Option α :=
  if 0 ≤ i then (if i < xs.length then xs[i.toNat]? else none) else if -(xs.length : Int) ≤ i then xs[(i + xs.length).toNat]? else none
/-- a slice's end -/
def slEnd (n d : Nat) : Option Int → Nat
  | none => d
  | some v => if v < 0 then (v + n).toNat else min v.toNat n
def cutD {α : Type} (xs : List α) (lo hi : Option Int) : List α := (xs.drop (slEnd xs.length 0 lo)).take (slEnd xs.length xs.length hi - slEnd xs.length 0 lo)
def chr1 (c : Nat) : D := .str ⟨#[c]⟩
def cutS (s : Str) (lo hi : Option Int) : Str := ⟨((s.cps.toList.drop (slEnd s.length 0 lo)).take (slEnd s.length s.length hi - slEnd s.length 0 lo)).toArray⟩


inductive DK where
  | non | bl | int | str | tup | lst | dct
def D.dk : D → DK
  | .non => .non | .bl _ => .bl | .int _ => .int | .str _ => .str | .tup _ => .tup | .lst _ => .lst | .dct _ => .dct
def DK.name : DK → String
  | .non => "NoneType" | .bl => "bool" | .int => "int" | .str => "str" | .tup => "tuple" | .lst => "list" | .dct => "dict"
def tyOk : Ty → DK → Bool
  | .str, .str => true
  | .tuple, .tup => true
  | .list, .lst => true
  | .int, .int => true
  | .int, .bl => true
  | .bool, .bl => true
  | .dict, .dct => true
  | _, _ => false
def D.isTy (t : Ty) (d : D) : Bool := tyOk t d.dk

def D.bools : List D → Option (List Bool)
  | [] => some []
  | .bl b :: r => (bools r).map (b :: ·)
  | _ => none

def slArg : Bool → List D → Option (Option Int × List D)
  | false, l => some (none, l)
  | true, .int i :: r => some (some i, r)
  | _, _ => none

def inD (x : D) (xs : List D) : Bool := xs.any fun y => D.eq y x

def lenD : D → Option Nat
  | .str s => some s.length
  | .tup xs => some xs.length
  | .lst xs => some xs.length
  | .dct kvs => some kvs.length
  | _ => none

/-- small enough for // -/
def divOk (j : Int) : Bool := j != 0 && decide (j.natAbs < 1073741824)
def mulOk (i j : Int) : Bool := (decide (-(2 ^ 64) < i) && decide (i < 2 ^ 64)) || (decide (-(2 ^ 64) < j) && decide (j < 2 ^ 64))
def powOk (i j : Int) : Bool := decide (0 ≤ j) && decide (j ≤ 1000000) && decide (i.natAbs < 2 ^ 64)
def rngOk (i : Int) : Bool := decide (-(2 ^ 62) ≤ i) && decide (i < 2 ^ 62)

def iota (lo : Int) : Nat → List D
  | 0 => []
  | n + 1 => .int lo :: iota (lo + 1) n
def enumD : Nat → List D → List D
  | _, [] => []
  | i, x :: r => .tup [.int i, x] :: enumD (i + 1) r

/-- the size of a shown text, generously -/
def D.sz : D → Nat
  | .non => 4
  | .bl _ => 5
  | .int i => i.natAbs.log2 + 3
  | .str s => 10 * s.length + 2
  | .tup xs => szs xs + 4
  | .lst xs => szs xs + 4
  | .dct kvs => szd kvs + 4
where
  szs : List D → Nat
    | [] => 0
    | d :: r => D.sz d + 2 + szs r
  szd : List (D × D) → Nat
    | [] => 0
    | (k, v) :: r => D.sz k + D.sz v + 4 + szd r

def itemsD : D → Option (List D)
  | .lst xs => some xs
  | .tup xs => some xs
  | .str s => some (s.cps.toList.map chr1)
  | _ => none

def slD : D → Option Int → Option Int → Option D
  | .lst xs, lo, hi => some (.lst (cutD xs lo hi))
  | .tup xs, lo, hi => some (.tup (cutD xs lo hi))
  | .str s, lo, hi => if s.length ≤ line then some (.str (cutS s lo hi)) else none
  | _, _, _ => none
def Ty.name : Ty → String
  | .str => "str" | .tuple => "tuple" | .list => "list" | .int => "int" | .bool => "bool" | .dict => "dict"
variable (shown : D → Option Str)

def Op.ap1 (o : Op) (d : D) : Option D :=
  match o with
  | .isi t => some (.bl (d.isTy t))
  | .len => match d with
    | .str z => if z.length ≤ line then some (.int z.length) else none
    | .lst xs => some (.int xs.length)
    | .tup xs => some (.int xs.length)
    | .dct xs => some (.int xs.length)
    | _ => none
  | .all => match d with
    | .lst xs => (D.bools xs).map fun bs => .bl (bs.all id)
    | _ => none
  | .any => match d with
    | .lst xs => (D.bools xs).map fun bs => .bl (bs.any id)
    | _ => none
  | .isN => some (.bl d.isNon)
  | .notN => some (.bl (!d.isNon))
  | .neg => match d with
    | .int i => some (.int (-i))
    | _ => none
  | .not_ => d.tru.map fun b => .bl (!b)
  | .toInt => match d with
    | .int i => some (.int i)
    | .bl b => some (.int (b2i b))
    | _ => none
  | .toList => match d with
    | .lst xs => some (.lst xs)
    | .tup xs => some (.lst xs)
    | _ => none
  | .toTuple => match d with
    | .lst xs => some (.tup xs)
    | .tup xs => some (.tup xs)
    | _ => none
  | .repr => (shown d).map .str
  | .range1 => match d with
    | .int n => if rngOk n then some (.lst (iota 0 n.toNat)) else none
    | _ => none
  | .enum => match d with
    | .lst xs => some (.lst (enumD 0 xs))
    | _ => none
  | _ => none

def Op.ap2 (o : Op) (a b : D) : Option D :=
  match o with
  | .eq => if a.cmp && b.cmp then some (.bl (D.eq a b)) else none
  | .ne => if a.cmp && b.cmp then some (.bl (!D.eq a b)) else none
  | .lt => match a, b with
    | .int i, .int j => some (.bl (decide (i < j)))
    | _, _ => none
  | .le => match a, b with
    | .int i, .int j => some (.bl (decide (i ≤ j)))
    | _, _ => none
  | .gt => match a, b with
    | .int i, .int j => some (.bl (decide (j < i)))
    | _, _ => none
  | .ge => match a, b with
    | .int i, .int j => some (.bl (decide (j ≤ i)))
    | _, _ => none
  | .isin => match b with
    | .str t => match a with
      | .str s => match s.cps.toList with
        | [c] => some (.bl (decide (c ∈ t.cps.toList)))
        | _ => none
      | _ => none
    | .lst xs => if a.cmp && (D.lst xs).cmp then some (.bl (inD a xs)) else none
    | .tup xs => if a.cmp && (D.lst xs).cmp then some (.bl (inD a xs)) else none
    | _ => none
  | .notin => match b with
    | .str t => match a with
      | .str s => match s.cps.toList with
        | [c] => some (.bl (!decide (c ∈ t.cps.toList)))
        | _ => none
      | _ => none
    | .lst xs => if a.cmp && (D.lst xs).cmp then some (.bl (!inD a xs)) else none
    | .tup xs => if a.cmp && (D.lst xs).cmp then some (.bl (!inD a xs)) else none
    | _ => none
  | .add => match a, b with
    | .int i, .int j => some (.int (i + j))
    | .str a, .str b => if a.length + b.length ≤ line then some (.str (a ++ b)) else none
    | .lst a, .lst b => if a.length + b.length ≤ line then some (.lst (a ++ b)) else none
    | .tup a, .tup b => if a.length + b.length ≤ line then some (.tup (a ++ b)) else none
    | _, _ => none
  | .sub => match a, b with
    | .int i, .int j => some (.int (i - j))
    | _, _ => none
  | .mul => match a, b with
    | .int i, .int j => if mulOk i j then some (.int (i * j)) else none
    | _, _ => none
  | .mod => match a, b with
    | .int i, .int j => if j = 0 then none else some (.int (i.fmod j))
    | _, _ => none
  | .fdiv => match a, b with
    | .int i, .int j => if divOk j then some (.int (i.fdiv j)) else none
    | _, _ => none
  | .pow => match a, b with
    | .int i, .int j => if powOk i j then some (.int (i ^ j.toNat)) else none
    | _, _ => none
  | .max2 => match a, b with
    | .int i, .int j => some (.int (if j > i then j else i))
    | _, _ => none
  | .min2 => match a, b with
    | .int i, .int j => some (.int (if j < i then j else i))
    | _, _ => none
  | .ix => match b with
    | .int i => match a with
      | .lst xs => ixD xs i
      | .tup xs => ixD xs i
      | .str s => if s.length ≤ line then (ixD s.cps.toList i).map chr1 else none
      | _ => none
    | _ => none
  | .range2 => match a, b with
    | .int m, .int n => if rngOk m && rngOk n then some (.lst (iota m (n - m).toNat)) else none
    | _, _ => none
  | _ => none

def Op.ap (o : Op) (ds : List D) : Option D :=
  match o with
  | .tup => if ds.length ≤ line then some (.tup ds) else none
  | .lst => if ds.length ≤ line then some (.lst ds) else none
  | .sl a b => match ds with
    | x :: r => match slArg a r with
      | some (lo, r) => match slArg b r with
        | some (hi, []) => slD x lo hi
        | _ => none
      | none => none
    | [] => none
  | o => match ds with
    | [a] => o.ap1 shown a
    | [a, b] => o.ap2 a b
    | _ => none

/-- a method that changes the object: (what it gives, the object behind it) -/
def MOp.ap : MOp → D → List D → Option (D × D)
  | .append, .lst xs, [y] => if xs.length < line then some (.non, .lst (xs ++ [y])) else none
  | .extend, .lst xs, [.lst ys] => if xs.length + ys.length ≤ line then some (.non, .lst (xs ++ ys)) else none
  | .seti, .lst xs, [.int i, y] => if 0 ≤ i ∧ i < xs.length then some (.non, .lst (xs.set i.toNat y)) else none
  | .popAt, .lst xs, [.int i] => if 0 ≤ i ∧ i < xs.length ∧ xs.length ≤ line then (xs[i.toNat]?).map fun y => (y, .lst (xs.eraseIdx i.toNat)) else none
  | _, _, _ => none

/-! ### slots -/
def peek (r : Env) (j : Nat) : Option D :=
  match r[j]? with
  | some (.fz d) => some d
  | some (.ow d) => some d
  | some (.lk d) => some d
  | _ => none
def setE (r : Env) (j : Nat) (x : Slot) : Env := r.set j x
/-- a name handed on: frozen from here on -/
def capE (r : Env) (j : Nat) : Option (D × Env) :=
  match r[j]? with
  | some (.fz d) => some (d, r)
  | some (.ow d) => some (d, r.set j (.fz d))
  | _ => none
def owned (r : Env) (j : Nat) : Option D :=
  match r[j]? with
  | some (.ow d) => some d
  | _ => none
/-- a comprehension's own names -/
def wipeE (r : Env) (own : List Nat) : Env := own.foldl (fun r j => r.set j .un) r
def ownFree (r : Env) (own : List Nat) : Bool := own.all fun j => match r[j]? with | some .un => true | some (.fz _) => true | _ => false
def backE (r0 r : Env) (own : List Nat) : Env := own.foldl (fun r j => match r0[j]? with | some x => r.set j x | none => r) r
def setOw (r : Env) : List Nat → List D → Option Env
  | [], [] => some r
  | j :: js, d :: ds => match r[j]? with
    | some (.ow _) => setOw (r.set j (.ow d)) js ds
    | _ => none
  | _, _ => none

def MG.bind : MG → D → Env → Option Env
  | .sl j, d, r => some (r.set j (.fz d))
  | .tup g, .tup xs, r => binds g xs r
  | _, _, _ => none
where
  binds : MG → List D → Env → Option Env
    | .nil, [], r => some r
    | .cons a g, x :: xs, r => match MG.bind a x r with
      | some r' => binds g xs r'
      | none => none
    | _, _, _ => none

/-- names among the arguments are read again behind all of them -/
def ME.fresh : ME → List D → Env → Option (List D)
  | .cons (.nm j) m, _ :: ds, r => match peek r j, fresh m ds r with
    | some d, some l => some (d :: l)
    | _, _ => none
  | .cons _ m, d :: ds, r => (fresh m ds r).map (d :: ·)
  | .nil, [], _ => some []
  | _, _, _ => none
/-- the names that stand as arguments -/
def ME.names : ME → List Nat
  | .cons (.nm j) m => j :: names m
  | .cons _ m => names m
  | _ => []
structure FDef where
  nslots : Nat
  io : List Bool
  rf : Bool
  body : MS
structure Prog where
  gt : List (Str × D)
  fs : List FDef

def compLoop (own : List Nat) (tg : MG) (c e : Env → Out (List D)) : List D → List D → Env → Out (List D)
  | acc, [], r => .ok acc r
  | acc, x :: xs, r =>
    match tg.bind x (wipeE r own) with
    | none => .stk
    | some r1 => (c r1).bind fun b r2 =>
      match b with
      | [b] => match b.tru with
        | some true => (e r2).bind fun y r3 => match y with
          | [y] => if acc.length < line then compLoop own tg c e (acc ++ [y]) xs r3 else .stk
          | _ => .stk
        | some false => compLoop own tg c e acc xs r2
        | none => .stk
      | _ => .stk

variable (P : Prog) (cf : Nat → List D → CR)

def ME.ev : ME → Env → Out (List D)
  | .kst d, r => .ok [d] r
  | .glb i, r => match P.gt[i]? with
    | some x => .ok [x.2] r
    | none => .stk
  | .nm j, r => match peek r j with
    | some d => .ok [d] r
    | none => .stk
  | .cap j, r => match capE r j with
    | some (d, r') => .ok [d] r'
    | none => .stk
  | .nil, r => .ok [] r
  | .cons a m, r => (ev a r).bind fun x r1 => (ev m r1).bind fun y r2 => .ok (x ++ y) r2
  | .op o a, r => (ev a r).bind fun x r1 => match a.fresh x r1 with
    | some x => match o.ap shown x with
      | some d => .ok [d] r1
      | none => .stk
    | none => .stk
  | .chain o1 o2 ab c, r => (ev ab r).bind fun x r1 => match ab.fresh x r1 with
    | some x => match o1.ap shown x with
      | some (.bl true) => (ev c r1).bind fun z r2 => match ab.fresh x r2 with
        | some [_, y] => match (ME.cons c .nil).fresh z r2 with
          | some [z] => match o2.ap shown [y, z] with
            | some d => .ok [d] r2
            | none => .stk
          | _ => .stk
        | _ => .stk
      | some (.bl false) => .ok [.bl false] r1
      | _ => .stk
    | none => .stk
  | .and_ a b, r => (ev a r).bind fun x r1 => match x with
    | [x] => match x.tru with
      | some true => ev b r1
      | some false => .ok [x] r1
      | none => .stk
    | _ => .stk
  | .or_ a b, r => (ev a r).bind fun x r1 => match x with
    | [x] => match x.tru with
      | some true => .ok [x] r1
      | some false => ev b r1
      | none => .stk
    | _ => .stk
  | .ite c a b, r => (ev c r).bind fun x r1 => match x with
    | [x] => match x.tru with
      | some true => ev a r1
      | some false => ev b r1
      | none => .stk
    | _ => .stk
  | .call f sl a, r => (ev a r).bind fun x r1 => match a.fresh x r1 with
    | some x => match cf f x with
      | .ok d outs => match setOw r1 sl outs with
        | some r2 => .ok [d] r2
        | none => .stk
      | .err c fs outs => match setOw r1 sl outs with
        | some r2 => .err c fs r2
        | none => .stk
      | .stk => .stk
    | none => .stk
  | .mop o j a, r => match r[j]? with
    | some (.ow (.lst _)) => (ev a r).bind fun x r1 => match a.fresh x r1, owned r1 j with
      | some x, some d => match o.ap d x with
        | some (y, d') => .ok [y] (r1.set j (.ow d'))
        | none => .stk
      | _, _ => .stk
    | _ => .stk
  | .comp own tg it c e, r => (ev it r).bind fun x r1 => match x with
    | [x] => match itemsD x with
      | some xs => if ownFree r1 own then
          (compLoop own tg (ev c) (ev e) [] xs r1).nox.bind fun ys r2 => .ok [.lst ys] (backE r1 r2 own)
        else .stk
      | none => .stk
    | _ => .stk

def evC (m : ME) (r : Env) : Out Bool := (m.ev shown P cf r).bind fun x r1 => match x with
  | [x] => match x.tru with
    | some b => .ok b r1
    | none => .stk
  | _ => .stk

def forLoop (tg : MG) (body : Env → Out Fl) : List D → Env → Out Fl
  | [], r => .ok .nx r
  | x :: xs, r => match tg.bind x r with
    | none => .stk
    | some r1 => (body r1).bind fun f r2 => match f with
      | .nx => forLoop tg body xs r2
      | .ct => forLoop tg body xs r2
      | .bk => .ok .nx r2
      | .ret d => .ok (.ret d) r2

def whlLoop (c : Env → Out Bool) (body : Env → Out Fl) : Nat → Env → Out Fl
  | 0, _ => .stk
  | n + 1, r => (c r).bind fun b r1 => if b then (body r1).bind fun f r2 => match f with
      | .nx => whlLoop c body n r2
      | .ct => whlLoop c body n r2
      | .bk => .ok .nx r2
      | .ret d => .ok (.ret d) r2
    else .ok .nx r1

/-- a value that is nobody else's: a new object, or no object that changes -/
def ME.fr : ME → Bool
  | .kst _ => true
  | .nil => true
  | .cons a m => fr a && fr m
  | .op o _ => match o with
    | .ix => false
    | _ => true
  | .chain .. => true
  | .and_ a b => fr a && fr b
  | .or_ a b => fr a && fr b
  | .ite _ a b => fr a && fr b
  | .call f _ _ => match P.fs[f]? with
    | some fd => fd.rf
    | none => false
  | .mop .. => false
  | .comp .. => true
  | _ => false

/-- x = e: an object of one's own where e is new -/
def asgE (g : MG) (own : Bool) (d : D) (r : Env) : Option Env :=
  match g, own with
  | .sl j, true => some (r.set j (mkSlot d))
  | g, _ => g.bind d r

def MS.ev (rf : Bool) : MS → Env → Out Fl
  | .nil, r => .ok .nx r
  | .seq s t, r => (ev rf s r).bind fun f r1 => match f with
    | .nx => ev rf t r1
    | f => .ok f r1
  | .asg g e, r => (e.ev shown P cf r).bind fun x r1 => match x with
    | [d] => match asgE g (e.fr P) d r1 with
      | some r2 => .ok .nx r2
      | none => .stk
    | _ => .stk
  | .par i j a b, r => ((ME.cons a (.cons b .nil)).ev shown P cf r).bind fun x r1 => match x with
    | [x, y] => .ok .nx ((r1.set i (.fz x)).set j (.fz y))
    | _ => .stk
  | .expr e, r => (e.ev shown P cf r).bind fun _ r1 => .ok .nx r1
  | .aug o j e, r => match peek r j with
    | some x => (e.ev shown P cf r).bind fun y r1 => match y with
      | [y] => match x with
        | .int _ => match o.ap shown [x, y] with
          | some d => .ok .nx (r1.set j (.fz d))
          | none => .stk
        | _ => .stk
      | _ => .stk
    | none => .stk
  | .seti j k v, r => match r[j]? with
    | some (.ow (.lst _)) => (v.ev shown P cf r).bind fun x r1 => (k.ev shown P cf r1).bind fun y r2 => match x, y, owned r2 j with
      | [v], [k], some d => match MOp.seti.ap d [k, v] with
        | some (_, d') => .ok .nx (r2.set j (.ow d'))
        | none => .stk
      | _, _, _ => .stk
    | _ => .stk
  | .ret e, r => match e with
    | .nm j => match rf, r[j]? with
      | true, some (.ow d) => .ok (.ret d) r
      | true, some (.fz d) => if d.mutb then .stk else .ok (.ret d) r
      | false, some (.ow d) => .ok (.ret d) (r.set j (.fz d))
      | false, some (.fz d) => .ok (.ret d) r
      | _, _ => .stk
    | e => (e.ev shown P cf r).bind fun x r1 => match x with
      | [d] => if rf && !e.fr P && d.mutb then .stk else .ok (.ret d) r1
      | _ => .stk
  | .retN, r => .ok (.ret .non) r
  | .ife c a b, r => (evC shown P cf c r).bind fun t r1 => if t then ev rf a r1 else ev rf b r1
  | .for_ tg it body, r => (it.ev shown P cf r).bind fun x r1 => match x with
    | [x] => match itemsD x with
      | some xs => forLoop tg (ev rf body) xs r1
      | none => .stk
    | _ => .stk
  | .whl n c body, r => whlLoop (evC shown P cf c) (ev rf body) n r
  | .brk, r => .ok .bk r
  | .cont, r => .ok .ct r
  | .pass, r => .ok .nx r
  | .raise c a, r => (a.ev shown P cf r).bind fun x r1 => .err c x r1
  | .try_ body c x h, r => match ev rf body r with
    | .ok f r1 => .ok f r1
    | .err c' fs r1 => if c' = c then (match x with
        | none => ev rf h r1
        | some _ => .stk) else .err c' fs r1
    | .stk => .stk

def iosOf : List Bool → Env → Option (List D)
  | [], _ => some []
  | true :: bs, .ow d :: r => (iosOf bs r).map (d :: ·)
  | false :: bs, _ :: r => iosOf bs r
  | _, _ => none
def startE (n : Nat) (io : List Bool) (ds : List D) : Env := (io.zip ds).map (fun (b, d) => if b then .ow d else .fz d) ++ List.replicate (n - ds.length) .un

def FDef.run (fd : FDef) (ds : List D) : CR :=
  if ds.length = fd.io.length then
    match fd.body.ev shown P cf fd.rf (startE fd.nslots fd.io ds) with
    | .ok f r => match f, iosOf fd.io r with
      | .nx, some outs => .ok .non outs
      | .ret d, some outs => .ok d outs
      | _, _ => .stk
    | .err c fs r => match iosOf fd.io r with
      | some outs => .err c fs outs
      | none => .stk
    | .stk => .stk
  else .stk

/-- calls, k deep -/
def callN : Nat → Nat → List D → CR
  | 0, _, _ => .stk
  | k + 1, f, ds => match P.fs[f]? with
    | some fd => fd.run shown P (callN k) ds
    | none => .stk
end VL

/-! VL2: how data lie in the abstract heap; the state of a def's body. -/
namespace VL
open PySem PySem.Spec L2

/-- d lies at v, all of it in G -/
def RV (K : PySem.W.Frag) (G : Hp) : D → V → Prop
  | .non, v => v = .non
  | .bl b, v => v = .bl b
  | .int i, v => v = .int i
  | .str s, v => v = .str s
  | .tup ds, v => ∃ a vs, v = .ref a ∧ SqT K G a vs ∧ all ds vs
  | .lst ds, v => ∃ a vs, v = .ref a ∧ SqL K G a vs ∧ all ds vs
  | .dct kvs, v => ∃ a, v = .ref a ∧ kvs = [] ∧ G a = some (.dK [])
where
  all : List D → List V → Prop
    | [], vs => vs = []
    | d :: ds, vs => ∃ v r, vs = v :: r ∧ RV K G d v ∧ all ds r
abbrev RVs (K : PySem.W.Frag) (G : Hp) : List D → List V → Prop := RV.all K G
/-- an object of one's own at a: its items lie in G -/
def OV (K : PySem.W.Frag) (G H : Hp) : D → Addr → Prop
  | .lst ds, a => ∃ vs, H a = some (.lst vs) ∧ RVs K G ds vs
  | .dct kvs, a => kvs = [] ∧ H a = some (.dK [])
  | _, _ => False

section
variable {K : PySem.W.Frag} {G G' H H' : Hp}
theorem SqT.mono {a : Addr} {xs : List V} (g : Same G G') (h : SqT K G a xs) : SqT K G' a xs := by
  rcases h with (h | ⟨o, h⟩) | h
  · exact .inl (.inl (g _ _ h))
  · exact .inl (.inr ⟨o, g _ _ h⟩)
  · exact .inr h
mutual
theorem RV.mono (g : Same G G') : ∀ {d : D} {v : V}, RV K G d v → RV K G' d v
  | .non, _, h => h
  | .bl _, _, h => h
  | .int _, _, h => h
  | .str _, _, h => h
  | .tup ds, _, ⟨a, vs, e, h, r⟩ => ⟨a, vs, e, SqT.mono g h, RVs.mono g r⟩
  | .lst ds, _, ⟨a, vs, e, h, r⟩ => ⟨a, vs, e, g.seq h, RVs.mono g r⟩
  | .dct _, _, ⟨a, e, k, h⟩ => ⟨a, e, k, g _ _ h⟩
theorem RVs.mono (g : Same G G') : ∀ {ds : List D} {vs : List V}, RVs K G ds vs → RVs K G' ds vs
  | [], _, h => h
  | d :: ds, _, ⟨v, r, e, h1, h2⟩ => ⟨v, r, e, RV.mono g h1, RVs.mono g h2⟩
end
theorem RVs.nil : RVs K G [] [] := rfl
theorem RVs.cons {d : D} {v : V} {ds : List D} {vs : List V} (h1 : RV K G d v) (h2 : RVs K G ds vs) : RVs K G (d :: ds) (v :: vs) := ⟨v, vs, rfl, h1, h2⟩
theorem RVs.len : ∀ {ds : List D} {vs : List V}, RVs K G ds vs → vs.length = ds.length
  | [], _, h => by rw [show _ = [] from h]; rfl
  | d :: ds, _, ⟨v, r, e, h1, h2⟩ => by rw [e, List.length_cons, List.length_cons, RVs.len h2]
theorem RVs.one {d : D} {v : V} (h : RV K G d v) : RVs K G [d] [v] := RVs.cons h RVs.nil
theorem RVs.app : ∀ {ds es : List D} {vs ws : List V}, RVs K G ds vs → RVs K G es ws → RVs K G (ds ++ es) (vs ++ ws)
  | [], _, _, _, h, k => by rw [show _ = [] from h]; exact k
  | d :: ds, _, _, _, ⟨v, r, e, h1, h2⟩, k => by rw [e]; exact RVs.cons h1 (RVs.app h2 k)
theorem RVs.get : ∀ {ds : List D} {vs : List V} {i : Nat} {d : D}, RVs K G ds vs → ds[i]? = some d → ∃ v, vs[i]? = some v ∧ RV K G d v
  | [], _, _, _, _, e => by simp at e
  | d :: ds, _, 0, _, ⟨v, r, e, h1, h2⟩, q => by
    simp at q
    subst q e
    exact ⟨v, rfl, h1⟩
  | d :: ds, _, i + 1, x, ⟨v, r, e, h1, h2⟩, q => by
    subst e
    obtain ⟨u, h, k⟩ := RVs.get (i := i) h2 (by simpa using q)
    exact ⟨u, by simpa using h, k⟩
theorem RVs.getV : ∀ {ds : List D} {vs : List V} {i : Nat} {v : V}, RVs K G ds vs → vs[i]? = some v → ∃ d, ds[i]? = some d ∧ RV K G d v
  | [], _, _, _, h, e => by rw [show _ = [] from h] at e; simp at e
  | d :: ds, _, 0, _, ⟨v, r, e, h1, h2⟩, q => by
    subst e
    simp at q
    subst q
    exact ⟨d, rfl, h1⟩
  | d :: ds, _, i + 1, x, ⟨v, r, e, h1, h2⟩, q => by
    subst e
    obtain ⟨u, h, k⟩ := RVs.getV (i := i) h2 (by simpa using q)
    exact ⟨u, by simpa using h, k⟩
theorem RVs.drop : ∀ {ds : List D} {vs : List V} (n : Nat), RVs K G ds vs → RVs K G (ds.drop n) (vs.drop n)
  | _, _, 0, h => h
  | [], _, n + 1, h => by rw [show _ = [] from h]; exact RVs.nil
  | d :: ds, _, n + 1, ⟨v, r, e, h1, h2⟩ => by subst e; exact RVs.drop n h2
theorem RVs.take : ∀ {ds : List D} {vs : List V} (n : Nat), RVs K G ds vs → RVs K G (ds.take n) (vs.take n)
  | _, _, 0, h => RVs.nil
  | [], _, n + 1, h => by rw [show _ = [] from h]; exact RVs.nil
  | d :: ds, _, n + 1, ⟨v, r, e, h1, h2⟩ => by subst e; exact RVs.cons h1 (RVs.take n h2)
theorem RVs.set : ∀ {ds : List D} {vs : List V} {d : D} {v : V} (n : Nat), RVs K G ds vs → RV K G d v → RVs K G (ds.set n d) (vs.set n v)
  | [], _, _, _, _, h, _ => by rw [show _ = [] from h]; exact RVs.nil
  | d :: ds, _, _, _, 0, ⟨v, r, e, h1, h2⟩, k => by subst e; exact RVs.cons k h2
  | d :: ds, _, _, _, n + 1, ⟨v, r, e, h1, h2⟩, k => by subst e; exact RVs.cons h1 (RVs.set n h2 k)
theorem RVs.erase : ∀ {ds : List D} {vs : List V} (n : Nat), RVs K G ds vs → RVs K G (ds.eraseIdx n) (vs.eraseIdx n)
  | [], _, _, h => by rw [show _ = [] from h]; exact RVs.nil
  | d :: ds, _, 0, ⟨v, r, e, h1, h2⟩ => by subst e; exact h2
  | d :: ds, _, n + 1, ⟨v, r, e, h1, h2⟩ => by subst e; exact RVs.cons h1 (RVs.erase n h2)
theorem RVs.snoc {ds : List D} {vs : List V} {d : D} {v : V} (h : RVs K G ds vs) (k : RV K G d v) : RVs K G (ds ++ [d]) (vs ++ [v]) := RVs.app h (RVs.one k)
theorem OV.mono (g : Same G G') : ∀ {d : D} {a : Addr}, OV K G H d a → OV K G' H d a
  | .lst _, _, ⟨vs, h, r⟩ => ⟨vs, h, RVs.mono g r⟩
  | .dct _, _, h => h
theorem OV.heap : ∀ {d : D} {a : Addr}, OV K G H d a → H' a = H a → OV K G H' d a
  | .lst _, _, ⟨vs, h, r⟩, e => ⟨vs, e.trans h, r⟩
  | .dct _, _, ⟨k, h⟩, e => ⟨k, e.trans h⟩
theorem OV.there : ∀ {d : D} {a : Addr}, OV K G H d a → ∃ o, H a = some o
  | .lst _, _, ⟨vs, h, r⟩ => ⟨_, h⟩
  | .dct _, _, ⟨k, h⟩ => ⟨_, h⟩
theorem OV.mutb : ∀ {d : D} {a : Addr}, OV K G H d a → d.mutb = true
  | .lst _, _, _ => rfl
  | .dct _, _, _ => rfl
/-- once it is in G -/
theorem OV.rv : ∀ {d : D} {a : Addr} {o : HO}, OV K G H d a → H a = some o → Same G G' → G' a = some o → RV K G' d (.ref a)
  | .lst _, _, _, ⟨vs, h, r⟩, e, g, k => ⟨_, vs, rfl, SqL.of (by rw [k, ← e, h]), RVs.mono g r⟩
  | .dct _, _, _, ⟨z, h⟩, e, g, k => ⟨_, rfl, z, by rw [k, ← e, h]⟩
end

/-! ### the state of a body -/
def ownAt (σ : St) (r : Env) (j : Nat) (a : Addr) : Prop := σ[j]? = some (some (.ref a)) ∧ ∃ d, r[j]? = some (.ow d) ∨ r[j]? = some (.lk d)
def SlotOk (K : PySem.W.Frag) (Fr G H : Hp) (x : Option (Option V)) : Slot → Prop
  | .un => True
  | .fz d => ∃ v, x = some (some v) ∧ RV K G d v
  | .ow d => ∃ a, x = some (some (.ref a)) ∧ G a = none ∧ Fr a = none ∧ OV K G H d a
  | .lk d => ∃ a, x = some (some (.ref a)) ∧ G a = none ∧ Fr a = none ∧ OV K G H d a
/-- io: the parameters that the caller owns; Fr: objects of others; G: what is frozen -/
structure SR (K : PySem.W.Frag) (io : List (Nat × Addr)) (Fr G : Hp) (σ : St) (H : Hp) (r : Env) : Prop where
  len : r.length = σ.length
  g : Same G H
  f : ∀ a o, Fr a = some o → H a = some o ∧ G a = none
  s : ∀ (j : Nat) (x : Slot), r[j]? = some x → SlotOk K Fr G H σ[j]? x
  d : ∀ i j a, ownAt σ r i a → ownAt σ r j a → i = j
  i : ∀ p ∈ io, σ[p.1]? = some (some (.ref p.2)) ∧ ∃ d, r[p.1]? = some (.ow d) ∨ r[p.1]? = some (.lk d)

theorem same_upd {H : Hp} {p : Addr} {o : HO} (h : H p = none) : Same H (upd H p o) := fun b x e => by
  rw [upd_ne (ne_of_none e h)]
  exact e

section
variable {K : PySem.W.Frag} {io : List (Nat × Addr)} {Fr G G' H H' : Hp} {σ : St} {r : Env}
theorem SlotOk.mono {x : Option (Option V)} (gg : Same G G') (hG : ∀ a, Fr a = none → G a = none → (∃ o, H a = some o) → x = some (some (.ref a)) → G' a = none ∧ H' a = H a) : ∀ {t : Slot}, SlotOk K Fr G H x t → SlotOk K Fr G' H' x t
  | .un, h => h
  | .fz _, ⟨v, e, h⟩ => ⟨v, e, h.mono gg⟩
  | .ow _, ⟨a, e, h1, h2, h3⟩ => let z := hG a h2 h1 h3.there e; ⟨a, e, z.1, h2, (h3.mono gg).heap z.2⟩
  | .lk _, ⟨a, e, h1, h2, h3⟩ => let z := hG a h2 h1 h3.there e; ⟨a, e, z.1, h2, (h3.mono gg).heap z.2⟩
theorem SR.ownSlot {j : Nat} {a : Addr} (S : SR K io Fr G σ H r) (h : ownAt σ r j a) : G a = none ∧ Fr a = none ∧ ∃ o, H a = some o := by
  obtain ⟨e, d, h | h⟩ := h
  · obtain ⟨b, e', h1, h2, h3⟩ := S.s _ _ h
    rw [e] at e'
    cases e'
    exact ⟨h1, h2, h3.there⟩
  · obtain ⟨b, e', h1, h2, h3⟩ := S.s _ _ h
    rw [e] at e'
    cases e'
    exact ⟨h1, h2, h3.there⟩
/-- the heap grew by one object that nobody holds -/
theorem SR.grow {p : Addr} {o : HO} (S : SR K io Fr G σ H r) (h : H p = none) : SR K io Fr G σ (upd H p o) r := by
  have ss : Same H (upd H p o) := same_upd h
  refine ⟨S.len, fun a u e => ss _ _ (S.g a u e), fun a u e => ⟨ss _ _ (S.f a u e).1, (S.f a u e).2⟩, fun j x e => ?_, S.d, S.i⟩
  refine (S.s j x e).mono (fun _ _ q => q) fun a h1 h2 h3 _ => ⟨h2, ?_⟩
  obtain ⟨u, h3⟩ := h3
  rw [upd_ne (ne_of_none h3 h)]
/-- an object that nobody holds is frozen -/
theorem SR.freeze {p : Addr} {o : HO} (S : SR K io Fr G σ H r) (h : H p = some o) (hG : G p = none) (hF : Fr p = none) (hn : ∀ j, ¬ ownAt σ r j p) : SR K io Fr (upd G p o) σ H r := by
  refine ⟨S.len, fun a u e => ?_, fun a u e => ⟨(S.f a u e).1, ?_⟩, fun j x e => ?_, S.d, S.i⟩
  · by_cases z : a = p
    · subst z
      rw [upd_same] at e
      cases e
      exact h
    · rw [upd_ne z] at e
      exact S.g a u e
  · have z : a ≠ p := fun z => by subst z; rw [hF] at e; cases e
    rw [upd_ne z]
    exact (S.f a u e).2
  · have S1 := S.s j x e
    have gg : Same G (upd G p o) := same_upd hG
    cases x with
    | un => exact S1
    | fz d => obtain ⟨v, e1, h1⟩ := S1; exact ⟨v, e1, h1.mono gg⟩
    | ow d =>
      obtain ⟨a, e1, h1, h2, h3⟩ := S1
      have z : a ≠ p := fun z => hn j (by subst z; exact ⟨e1, d, .inl e⟩)
      exact ⟨a, e1, by rw [upd_ne z]; exact h1, h2, h3.mono gg⟩
    | lk d =>
      obtain ⟨a, e1, h1, h2, h3⟩ := S1
      have z : a ≠ p := fun z => hn j (by subst z; exact ⟨e1, d, .inr e⟩)
      exact ⟨a, e1, by rw [upd_ne z]; exact h1, h2, h3.mono gg⟩
theorem SR.none_own {p : Addr} (S : SR K io Fr G σ H r) (h : H p = none) (j : Nat) : ¬ ownAt σ r j p := fun q => by
  obtain ⟨_, _, o, e⟩ := S.ownSlot q
  rw [h] at e
  cases e
theorem SR.none_g {p : Addr} (S : SR K io Fr G σ H r) (h : H p = none) : G p = none := by
  cases e : G p with
  | none => rfl
  | some o => rw [S.g _ _ e] at h; cases h
theorem SR.none_f {p : Addr} (S : SR K io Fr G σ H r) (h : H p = none) : Fr p = none := by
  cases e : Fr p with
  | none => rfl
  | some o => rw [(S.f _ _ e).1] at h; cases h
/-- a new object, frozen at once -/
theorem SR.new {p : Addr} {o : HO} (S : SR K io Fr G σ H r) (h : H p = none) : SR K io Fr (upd G p o) σ (upd H p o) r :=
  (S.grow h).freeze upd_same (S.none_g h) (S.none_f h) fun j q => S.none_own h j q

theorem ownAt.set {σ : St} {r : Env} {j i : Nat} {a : Addr} {v : Option V} {x : Slot} (h : ownAt (σ.set j v) (r.set j x) i a) : i = j ∨ ownAt σ r i a := by
  by_cases z : i = j
  · exact .inl z
  · obtain ⟨h1, d, h2⟩ := h
    rw [List.getElem?_set_ne (Ne.symm z)] at h1
    rw [List.getElem?_set_ne (Ne.symm z)] at h2
    exact .inr ⟨h1, d, h2⟩
/-- a slot holds a frozen value -/
theorem SR.setFz {j : Nat} {d : D} {v : V} (S : SR K io Fr G σ H r) (hj : ∀ p ∈ io, p.1 ≠ j) (h : RV K G d v) : SR K io Fr G (σ.set j (some v)) H (r.set j (.fz d)) := by
  have l1 : r.length = σ.length := S.len
  refine ⟨by rw [List.length_set, List.length_set, l1], S.g, S.f, fun i x e => ?_, fun i i' a q q' => ?_, fun p hp => ?_⟩
  · by_cases z : i = j
    · subst z
      have hlt : i < r.length := by
        have := (List.getElem?_eq_some_iff.mp e).1
        rwa [List.length_set] at this
      rw [List.getElem?_set_self hlt] at e
      cases e
      exact ⟨v, List.getElem?_set_self (by omega), h⟩
    · rw [List.getElem?_set_ne (Ne.symm z)] at e
      rw [List.getElem?_set_ne (Ne.symm z)]
      exact S.s i x e
  · have fzno : ∀ {i}, ownAt (σ.set j (some v)) (r.set j (.fz d)) i a → i ≠ j := fun {i} q z => by
      obtain ⟨h1, x, h2⟩ := q
      subst z
      by_cases hlt : i < r.length
      · rw [List.getElem?_set_self hlt] at h2
        rcases h2 with h2 | h2 <;> cases h2
      · rw [List.getElem?_eq_none (by rw [List.length_set]; omega)] at h2
        rcases h2 with h2 | h2 <;> cases h2
    rcases ownAt.set q with z | q1
    · exact absurd z (fzno q)
    · rcases ownAt.set q' with z | q2
      · exact absurd z (fzno q')
      · exact S.d i i' a q1 q2
  · obtain ⟨h1, d', h2⟩ := S.i p hp
    rw [List.getElem?_set_ne (Ne.symm (hj p hp)), List.getElem?_set_ne (Ne.symm (hj p hp))]
    exact ⟨h1, d', h2⟩
/-- a slot is forgotten -/
theorem SR.setUn {j : Nat} {v : Option V} (S : SR K io Fr G σ H r) (hj : ∀ p ∈ io, p.1 ≠ j) : SR K io Fr G (σ.set j v) H (r.set j .un) := by
  refine ⟨by rw [List.length_set, List.length_set, S.len], S.g, S.f, fun i x e => ?_, fun i i' a q q' => ?_, fun p hp => ?_⟩
  · by_cases z : i = j
    · subst z
      have hlt : i < r.length := by
        have := (List.getElem?_eq_some_iff.mp e).1
        rwa [List.length_set] at this
      rw [List.getElem?_set_self hlt] at e
      cases e
      trivial
    · rw [List.getElem?_set_ne (Ne.symm z)] at e
      rw [List.getElem?_set_ne (Ne.symm z)]
      exact S.s i x e
  · have fzno : ∀ {i}, ownAt (σ.set j v) (r.set j .un) i a → i ≠ j := fun {i} q z => by
      obtain ⟨h1, x, h2⟩ := q
      subst z
      by_cases hlt : i < r.length
      · rw [List.getElem?_set_self hlt] at h2
        rcases h2 with h2 | h2 <;> cases h2
      · rw [List.getElem?_eq_none (by rw [List.length_set]; omega)] at h2
        rcases h2 with h2 | h2 <;> cases h2
    rcases ownAt.set q with z | q1
    · exact absurd z (fzno q)
    · rcases ownAt.set q' with z | q2
      · exact absurd z (fzno q')
      · exact S.d i i' a q1 q2
  · obtain ⟨h1, d', h2⟩ := S.i p hp
    rw [List.getElem?_set_ne (Ne.symm (hj p hp)), List.getElem?_set_ne (Ne.symm (hj p hp))]
    exact ⟨h1, d', h2⟩
/-- a slot holds an object that nobody else holds -/
theorem SR.setOw {j : Nat} {d : D} {a : Addr} (S : SR K io Fr G σ H r) (hj : ∀ p ∈ io, p.1 ≠ j) (h : OV K G H d a) (hG : G a = none) (hF : Fr a = none) (hn : ∀ i, ¬ ownAt σ r i a) :
    SR K io Fr G (σ.set j (some (.ref a))) H (r.set j (.ow d)) := by
  have l1 : r.length = σ.length := S.len
  refine ⟨by rw [List.length_set, List.length_set, l1], S.g, S.f, fun i x e => ?_, fun i i' b q q' => ?_, fun p hp => ?_⟩
  · by_cases z : i = j
    · subst z
      have hlt : i < r.length := by
        have := (List.getElem?_eq_some_iff.mp e).1
        rwa [List.length_set] at this
      rw [List.getElem?_set_self hlt] at e
      cases e
      exact ⟨a, List.getElem?_set_self (by omega), hG, hF, h⟩
    · rw [List.getElem?_set_ne (Ne.symm z)] at e
      rw [List.getElem?_set_ne (Ne.symm z)]
      exact S.s i x e
  · have atj : ∀ {i}, ownAt (σ.set j (some (.ref a))) (r.set j (.ow d)) i b → i = j → b = a := fun {i} q z => by
      obtain ⟨h1, x, h2⟩ := q
      subst z
      by_cases hlt : i < σ.length
      · rw [List.getElem?_set_self hlt] at h1
        cases h1
        rfl
      · rw [List.getElem?_eq_none (by rw [List.length_set]; omega)] at h1
        cases h1
    rcases ownAt.set q with z | q1
    · rcases ownAt.set q' with z' | q2
      · rw [z, z']
      · exact absurd (by rw [← atj q z]; exact q2) (hn i')
    · rcases ownAt.set q' with z' | q2
      · exact absurd (by rw [← atj q' z']; exact q1) (hn i)
      · exact S.d i i' b q1 q2
  · obtain ⟨h1, d', h2⟩ := S.i p hp
    rw [List.getElem?_set_ne (Ne.symm (hj p hp)), List.getElem?_set_ne (Ne.symm (hj p hp))]
    exact ⟨h1, d', h2⟩
/-- the object of slot j is changed -/
theorem SR.put {j : Nat} {d d' : D} {a : Addr} {o : HO} (S : SR K io Fr G σ H r) (ha : σ[j]? = some (some (.ref a))) (hr : r[j]? = some (.ow d)) (h : OV K G (upd H a o) d' a) :
    SR K io Fr G σ (upd H a o) (r.set j (.ow d')) := by
  have hoa : ownAt σ r j a := ⟨ha, d, .inl hr⟩
  obtain ⟨ga, fa, _⟩ := S.ownSlot hoa
  have hlt : j < r.length := (List.getElem?_eq_some_iff.mp hr).1
  have own_back : ∀ {i b}, ownAt σ (r.set j (.ow d')) i b → ownAt σ r i b := fun {i b} q => by
    obtain ⟨h1, x, h2⟩ := q
    by_cases z : i = j
    · subst z
      exact ⟨h1, d, .inl hr⟩
    · rw [List.getElem?_set_ne (Ne.symm z)] at h2
      exact ⟨h1, x, h2⟩
  refine ⟨by rw [List.length_set, S.len], fun b u e => ?_, fun b u e => ⟨?_, (S.f b u e).2⟩, fun i x e => ?_, fun i i' b q q' => S.d i i' b (own_back q) (own_back q'), fun p hp => ?_⟩
  · have z : b ≠ a := fun z => by subst z; rw [ga] at e; cases e
    rw [upd_ne z]
    exact S.g b u e
  · have z : b ≠ a := fun z => by subst z; rw [fa] at e; cases e
    rw [upd_ne z]
    exact (S.f b u e).1
  · by_cases z : i = j
    · subst z
      rw [List.getElem?_set_self hlt] at e
      cases e
      exact ⟨a, ha, ga, fa, h⟩
    · rw [List.getElem?_set_ne (Ne.symm z)] at e
      have S1 := S.s i x e
      have other : ∀ b, ownAt σ r i b → upd H a o b = H b := fun b q => by
        refine upd_ne fun zz => z ?_
        subst zz
        exact S.d i j b q hoa
      cases x with
      | un => trivial
      | fz d => exact S1
      | ow d1 => obtain ⟨b, e1, h1, h2, h3⟩ := S1; exact ⟨b, e1, h1, h2, h3.heap (other b ⟨e1, d1, .inl e⟩)⟩
      | lk d1 => obtain ⟨b, e1, h1, h2, h3⟩ := S1; exact ⟨b, e1, h1, h2, h3.heap (other b ⟨e1, d1, .inr e⟩)⟩
  · obtain ⟨h1, x, h2⟩ := S.i p hp
    refine ⟨h1, ?_⟩
    by_cases z : p.1 = j
    · rw [z, List.getElem?_set_self hlt]
      exact ⟨d', .inl rfl⟩
    · rw [List.getElem?_set_ne (Ne.symm z)]
      exact ⟨x, h2⟩
/-- an own object frozen where it stands -/
theorem SR.cap {j : Nat} {d : D} (S : SR K io Fr G σ H r) (hj : ∀ p ∈ io, p.1 ≠ j) (hr : r[j]? = some (.ow d)) : ∃ a o, σ[j]? = some (some (.ref a)) ∧ G a = none ∧ H a = some o ∧ SR K io Fr (upd G a o) σ H (r.set j (.fz d)) ∧ RV K (upd G a o) d (.ref a) := by
  obtain ⟨a, e1, h1, h2, h3⟩ := S.s j _ hr
  obtain ⟨o, ho⟩ := h3.there
  have gg : Same G (upd G a o) := same_upd h1
  have rv : RV K (upd G a o) d (.ref a) := h3.rv ho gg upd_same
  have hoa : ownAt σ r j a := ⟨e1, d, .inl hr⟩
  have hlt : j < r.length := (List.getElem?_eq_some_iff.mp hr).1
  have own_back : ∀ {i b}, ownAt σ (r.set j (.fz d)) i b → i ≠ j ∧ ownAt σ r i b := fun {i b} q => by
    obtain ⟨q1, x, q2⟩ := q
    by_cases z : i = j
    · subst z
      rw [List.getElem?_set_self hlt] at q2
      rcases q2 with q2 | q2 <;> cases q2
    · rw [List.getElem?_set_ne (Ne.symm z)] at q2
      exact ⟨z, q1, x, q2⟩
  refine ⟨a, o, e1, h1, ho, ⟨by rw [List.length_set, S.len], fun b u e => ?_, fun b u e => ⟨(S.f b u e).1, ?_⟩, fun i x e => ?_, fun i i' b q q' => S.d i i' b (own_back q).2 (own_back q').2, fun p hp => ?_⟩, rv⟩
  · by_cases z : b = a
    · subst z
      rw [upd_same] at e
      cases e
      exact ho
    · rw [upd_ne z] at e
      exact S.g b u e
  · have z : b ≠ a := fun z => by subst z; rw [h2] at e; cases e
    rw [upd_ne z]
    exact (S.f b u e).2
  · by_cases z : i = j
    · subst z
      rw [List.getElem?_set_self hlt] at e
      cases e
      exact ⟨_, e1, rv⟩
    · rw [List.getElem?_set_ne (Ne.symm z)] at e
      have S1 := S.s i x e
      have other : ∀ b, ownAt σ r i b → b ≠ a := fun b q zz => z (by subst zz; exact S.d i j b q hoa)
      cases x with
      | un => trivial
      | fz d => obtain ⟨v, e2, h4⟩ := S1; exact ⟨v, e2, h4.mono gg⟩
      | ow d1 => obtain ⟨b, e2, k1, k2, k3⟩ := S1; exact ⟨b, e2, by rw [upd_ne (other b ⟨e2, d1, .inl e⟩)]; exact k1, k2, k3.mono gg⟩
      | lk d1 => obtain ⟨b, e2, k1, k2, k3⟩ := S1; exact ⟨b, e2, by rw [upd_ne (other b ⟨e2, d1, .inr e⟩)]; exact k1, k2, k3.mono gg⟩
  · obtain ⟨q1, x, q2⟩ := S.i p hp
    rw [List.getElem?_set_ne (Ne.symm (hj p hp))]
    exact ⟨q1, x, q2⟩
end
end VL

/-! VL3: what the operators and built-ins do to data. -/
namespace VL
open PySem PySem.Spec L2 PySem.SeqAt

/-! ### comparisons of data -/
section
variable {X : Cx} {pins : List (Addr × Obj)} {σ : L2.St} {H : Hp} {s : Shared}
mutual
theorem RV.uniq (I : Inv X pins σ H s) : ∀ {d e : D} {v : V}, RV X.K H d v → RV X.K H e v → D.flat d = true → d = e
  | .non, e, _, h, k, _ => by
    cases (show _ = V.non from h)
    cases e with
    | non => rfl
    | bl b => cases (show V.non = V.bl b from k)
    | int i => cases (show V.non = V.int i from k)
    | str i => cases (show V.non = V.str i from k)
    | tup xs => obtain ⟨a, vs, z, _⟩ := k; cases z
    | lst xs => obtain ⟨a, vs, z, _⟩ := k; cases z
    | dct xs => obtain ⟨a, z, _⟩ := k; cases z
  | .bl b, e, _, h, k, _ => by
    cases (show _ = V.bl b from h)
    cases e with
    | non => cases (show V.bl b = V.non from k)
    | bl b' => cases (show V.bl b = V.bl b' from k); rfl
    | int i => cases (show V.bl b = V.int i from k)
    | str i => cases (show V.bl b = V.str i from k)
    | tup xs => obtain ⟨a, vs, z, _⟩ := k; cases z
    | lst xs => obtain ⟨a, vs, z, _⟩ := k; cases z
    | dct xs => obtain ⟨a, z, _⟩ := k; cases z
  | .int b, e, _, h, k, _ => by
    cases (show _ = V.int b from h)
    cases e with
    | non => cases (show V.int b = V.non from k)
    | bl b' => cases (show V.int b = V.bl b' from k)
    | int i => cases (show V.int b = V.int i from k); rfl
    | str i => cases (show V.int b = V.str i from k)
    | tup xs => obtain ⟨a, vs, z, _⟩ := k; cases z
    | lst xs => obtain ⟨a, vs, z, _⟩ := k; cases z
    | dct xs => obtain ⟨a, z, _⟩ := k; cases z
  | .str b, e, _, h, k, _ => by
    cases (show _ = V.str b from h)
    cases e with
    | non => cases (show V.str b = V.non from k)
    | bl b' => cases (show V.str b = V.bl b' from k)
    | int i => cases (show V.str b = V.int i from k)
    | str i => cases (show V.str b = V.str i from k); rfl
    | tup xs => obtain ⟨a, vs, z, _⟩ := k; cases z
    | lst xs => obtain ⟨a, vs, z, _⟩ := k; cases z
    | dct xs => obtain ⟨a, z, _⟩ := k; cases z
  | .tup ds, e, _, ⟨a, vs, z, h1, h2⟩, k, f => by
    subst z
    cases e with
    | non => cases (show V.ref a = V.non from k)
    | bl b' => cases (show V.ref a = V.bl b' from k)
    | int i => cases (show V.ref a = V.int i from k)
    | str i => cases (show V.ref a = V.str i from k)
    | tup xs =>
      obtain ⟨b, ws, z, k1, k2⟩ := k
      cases z
      have e := I.tuple_inj h1 k1
      subst e
      rw [RVs.uniq I h2 k2 f]
    | lst xs =>
      obtain ⟨b, ws, z, k1, k2⟩ := k
      cases z
      obtain ⟨_, _, ⟨o, e1, e2, _⟩, _⟩ := I.tuple h1
      obtain ⟨_, _, ⟨o', n', q1, q2, _⟩, _⟩ := I.list k1
      rw [e1] at q1
      cases q1
      rw [e2] at q2
      injection q2 with z
      exact absurd z (by decide)
    | dct xs =>
      obtain ⟨b, z, _, k1⟩ := k
      cases z
      obtain ⟨_, _, ⟨o, e1, e2, _⟩, _⟩ := I.tuple h1
      obtain ⟨_, _, _, _, o', _, _, q1, q2, _⟩ := I.hok _ _ k1
      rw [e1] at q1
      cases q1
      have q3 := e2.symm.trans q2.1
      injection q3 with z
      exact absurd z (by decide)
  | .lst ds, e, _, ⟨a, vs, z, h1, h2⟩, k, f => by
    subst z
    cases e with
    | non => cases (show V.ref a = V.non from k)
    | bl b' => cases (show V.ref a = V.bl b' from k)
    | int i => cases (show V.ref a = V.int i from k)
    | str i => cases (show V.ref a = V.str i from k)
    | lst xs =>
      obtain ⟨b, ws, z, k1, k2⟩ := k
      cases z
      have e := I.list_inj h1 k1
      subst e
      rw [RVs.uniq I h2 k2 f]
    | tup xs =>
      obtain ⟨b, ws, z, k1, k2⟩ := k
      cases z
      obtain ⟨_, _, ⟨o, e1, e2, _⟩, _⟩ := I.tuple k1
      obtain ⟨_, _, ⟨o', n', q1, q2, _⟩, _⟩ := I.list h1
      rw [e1] at q1
      cases q1
      rw [e2] at q2
      injection q2 with z
      exact absurd z (by decide)
    | dct xs =>
      obtain ⟨b, z, _, k1⟩ := k
      cases z
      obtain ⟨_, _, ⟨o, n, e1, e2, _⟩, _⟩ := I.list h1
      obtain ⟨_, _, _, _, o', _, _, q1, q2, _⟩ := I.hok _ _ k1
      rw [e1] at q1
      cases q1
      have q3 := e2.symm.trans q2.1
      injection q3 with z
      exact absurd z (by decide)
  | .dct _, _, _, _, _, f => nomatch f
theorem RVs.uniq (I : Inv X pins σ H s) : ∀ {ds es : List D} {vs : List V}, RVs X.K H ds vs → RVs X.K H es vs → D.flat.flats ds = true → ds = es
  | [], es, _, h, k, _ => by
    cases (show _ = [] from h)
    cases es with
    | nil => rfl
    | cons e es => obtain ⟨_, _, z, _⟩ := k; cases z
  | d :: ds, es, _, ⟨v, r, z, h1, h2⟩, k, f => by
    subst z
    cases es with
    | nil => cases (show v :: r = [] from k)
    | cons e es =>
      obtain ⟨v', r', z, k1, k2⟩ := k
      cases z
      have f' : (D.flat d && D.flat.flats ds) = true := f
      simp only [Bool.and_eq_true] at f'
      rw [RV.uniq I h1 k1 f'.1, RVs.uniq I h2 k2 f'.2]
end
mutual
theorem D.eq_refl : ∀ d : D, D.flat d = true → D.eq d d = true
  | .non, _ => rfl
  | .bl b, _ => by simp [D.eq]
  | .int i, _ => by simp [D.eq]
  | .str x, _ => by simp [D.eq]
  | .tup xs, f => D.eqs_refl xs f
  | .lst xs, f => D.eqs_refl xs f
  | .dct _, f => nomatch f
theorem D.eqs_refl : ∀ ds : List D, D.flat.flats ds = true → D.eq.eqs ds ds = true
  | [], _ => rfl
  | d :: ds, f => by
    have f' : (D.flat d && D.flat.flats ds) = true := f
    simp only [Bool.and_eq_true] at f'
    simp [D.eq.eqs, D.eq_refl d f'.1, D.eqs_refl ds f'.2]
end
theorem eqs_len : ∀ {xs ys : List D}, xs.length ≠ ys.length → D.eq.eqs xs ys = false
  | [], [], h => absurd rfl h
  | [], _ :: _, _ => rfl
  | _ :: _, [], _ => rfl
  | x :: xs, y :: ys, h => by
    have h' : xs.length ≠ ys.length := fun z => h (by rw [List.length_cons, List.length_cons, z])
    simp [D.eq.eqs, eqs_len h']
def pairE (xs ys : List D) (j : Nat) : Bool := D.eq (xs.getD j .non) (ys.getD j .non)
theorem eqs_range : ∀ xs ys : List D, ((List.range (min xs.length ys.length)).all (pairE xs ys) && xs.length == ys.length) = D.eq.eqs xs ys
  | [], [] => rfl
  | [], y :: ys => by simp [D.eq.eqs]
  | x :: xs, [] => by simp [D.eq.eqs]
  | x :: xs, y :: ys => by
    have ih := eqs_range xs ys
    have e : min (x :: xs).length (y :: ys).length = min xs.length ys.length + 1 := by simp only [List.length_cons]; omega
    rw [e, List.range_succ_eq_map, List.all_cons, List.all_map]
    show ((D.eq x y && (List.range (min xs.length ys.length)).all (pairE xs ys)) && (xs.length + 1 == ys.length + 1)) = (D.eq x y && D.eq.eqs xs ys)
    rw [← ih]
    have e2 : (xs.length + 1 == ys.length + 1) = (xs.length == ys.length) := by
      by_cases z : xs.length = ys.length
      · rw [z]; simp
      · rw [beq_eq_false_iff_ne.mpr z, beq_eq_false_iff_ne.mpr (by omega)]
    rw [e2, Bool.and_assoc]
theorem dep_mem : ∀ {xs : List D} {j : Nat}, D.dep (xs.getD j .non) ≤ D.dep.deps xs
  | [], j => Nat.le_of_eq (by simp [D.dep, D.dep.deps])
  | x :: xs, 0 => Nat.le_max_left _ _
  | x :: xs, j + 1 => Nat.le_trans (dep_mem (xs := xs) (j := j)) (Nat.le_max_right _ _)
theorem flat_mem : ∀ {xs : List D} {j : Nat}, D.flat.flats xs = true → D.flat (xs.getD j .non) = true
  | [], j, _ => rfl
  | x :: xs, 0, f => by
    have f' : (D.flat x && D.flat.flats xs) = true := f
    simp only [Bool.and_eq_true] at f'
    exact f'.1
  | x :: xs, j + 1, f => by
    have f' : (D.flat x && D.flat.flats xs) = true := f
    simp only [Bool.and_eq_true] at f'
    exact flat_mem (xs := xs) (j := j) f'.2
theorem ZS.at {K : PySem.W.Frag} : ∀ {ds : List D} {vs : List V} {us : List Value}, RVs K H ds vs → Vals vs us → ∀ (j : Nat) (h : j < us.toArray.size), ∃ v, RV K H (ds.getD j .non) v ∧ RelV v us.toArray[j]
  | [], _, _, h, r, j, hj => by
    cases (show _ = [] from h)
    cases r
    simp at hj
  | d :: ds, _, _, ⟨v, r', z, h1, h2⟩, r, j, hj => by
    subst z
    cases r with
    | cons r1 r2 =>
      cases j with
      | zero => exact ⟨v, h1, by simpa using r1⟩
      | succ j =>
        obtain ⟨w, k1, k2⟩ := ZS.at h2 r2 j (by simpa using hj)
        exact ⟨w, by simpa using k1, by simpa using k2⟩
/-- == of data -/
theorem eqAt_D (I : Inv X pins σ H s) : ∀ (n : Nat) {d e : D} {v w : V} {a b : Value} {A : Around}, D.dep d ≤ n → RV X.K H d v → RV X.K H e w → RelV v a → RelV w b → D.flat d = true → D.flat e = true → A.units + n + 1 < cLine → EqAt A s a b (D.eq d e) := by
  intro n
  induction n with
  | zero =>
    intro d e v w a b A hn hd he ra rb fd fe hu
    have hu' : A.units < cLine := by omega
    cases d with
    | tup xs => exact absurd hn (by simp [D.dep])
    | lst xs => exact absurd hn (by simp [D.dep])
    | dct xs => exact nomatch fd
    | non =>
      cases (show v = V.non from hd)
      cases ra
      cases e with
      | non => cases (show w = V.non from he); cases rb; exact EqAt.same _
      | bl y => cases (show w = V.bl y from he); cases rb; exact EqAt.none_bool y
      | int y => cases (show w = V.int y from he); obtain ⟨t, rfl⟩ := rb; exact EqAt.none_int y t
      | str y => cases (show w = V.str y from he); obtain ⟨t, rfl⟩ := rb; exact EqAt.none_str y t
      | lst ys =>
        obtain ⟨l, vs, rfl, k, _⟩ := he
        cases rb
        obtain ⟨its, _, pl, _⟩ := I.list k
        exact EqAt.none_list pl.isList hu'
      | tup ys =>
        obtain ⟨l, vs, rfl, k, _⟩ := he
        cases rb
        obtain ⟨its, _, pl, _⟩ := I.tuple k
        exact EqAt.none_tuple pl hu'
      | dct ys => exact nomatch fe
    | bl x =>
      cases (show v = V.bl x from hd)
      cases ra
      cases e with
      | non => cases (show w = V.non from he); cases rb; exact EqAt.bool_none x
      | bl y => cases (show w = V.bl y from he); cases rb; exact EqAt.bool_bool x y
      | int y => cases (show w = V.int y from he); obtain ⟨t, rfl⟩ := rb; exact EqAt.bool_int x y t
      | str y => cases (show w = V.str y from he); obtain ⟨t, rfl⟩ := rb; exact EqAt.bool_str x y t
      | lst ys =>
        obtain ⟨l, vs, rfl, k, _⟩ := he
        cases rb
        obtain ⟨its, _, pl, _⟩ := I.list k
        exact EqAt.bool_list x pl.isList hu'
      | tup ys =>
        obtain ⟨l, vs, rfl, k, _⟩ := he
        cases rb
        obtain ⟨its, _, pl, _⟩ := I.tuple k
        exact EqAt.bool_tuple x pl hu'
      | dct ys => exact nomatch fe
    | int x =>
      cases (show v = V.int x from hd)
      obtain ⟨t0, rfl⟩ := ra
      cases e with
      | non => cases (show w = V.non from he); cases rb; exact EqAt.int_none x t0
      | bl y => cases (show w = V.bl y from he); cases rb; exact EqAt.int_bool x t0 y
      | int y => cases (show w = V.int y from he); obtain ⟨t, rfl⟩ := rb; exact EqAt.int_int x t0 y t
      | str y => cases (show w = V.str y from he); obtain ⟨t, rfl⟩ := rb; exact EqAt.int_str x t0 y t
      | lst ys =>
        obtain ⟨l, vs, rfl, k, _⟩ := he
        cases rb
        obtain ⟨its, _, pl, _⟩ := I.list k
        exact EqAt.int_list x t0 pl.isList hu'
      | tup ys =>
        obtain ⟨l, vs, rfl, k, _⟩ := he
        cases rb
        obtain ⟨its, _, pl, _⟩ := I.tuple k
        exact EqAt.int_tuple x t0 pl hu'
      | dct ys => exact nomatch fe
    | str x =>
      cases (show v = V.str x from hd)
      obtain ⟨t0, rfl⟩ := ra
      cases e with
      | non => cases (show w = V.non from he); cases rb; exact EqAt.str_none x t0
      | bl y => cases (show w = V.bl y from he); cases rb; exact EqAt.str_bool x t0 y
      | int y => cases (show w = V.int y from he); obtain ⟨t, rfl⟩ := rb; exact EqAt.str_int x t0 y t
      | str y => cases (show w = V.str y from he); obtain ⟨t, rfl⟩ := rb; exact EqAt.str_str x t0 y t
      | lst ys =>
        obtain ⟨l, vs, rfl, k, _⟩ := he
        cases rb
        obtain ⟨its, _, pl, _⟩ := I.list k
        exact EqAt.str_list x t0 pl.isList hu'
      | tup ys =>
        obtain ⟨l, vs, rfl, k, _⟩ := he
        cases rb
        obtain ⟨its, _, pl, _⟩ := I.tuple k
        exact EqAt.str_tuple x t0 pl hu'
      | dct ys => exact nomatch fe
  | succ n ih =>
    intro d e v w a b A hn hd he ra rb fd fe hu
    have hu' : A.units < cLine := by omega
    have hui : A.in1.units + n + 1 < cLine := by show A.units + 1 + n + 1 < cLine; omega
    cases d with
    | lst xs =>
      have hd0 := hd
      have he0 := he
      obtain ⟨l, vs, rfl, k, kr⟩ := hd
      cases ra
      obtain ⟨its, rv, pl, _⟩ := I.list k
      cases e with
      | non => cases (show w = V.non from he); cases rb; exact EqAt.list_none pl.isList hu'
      | bl y => cases (show w = V.bl y from he); cases rb; exact EqAt.list_bool y pl.isList hu'
      | int y => cases (show w = V.int y from he); obtain ⟨t, rfl⟩ := rb; exact EqAt.list_int y t pl.isList hu'
      | str y => cases (show w = V.str y from he); obtain ⟨t, rfl⟩ := rb; exact EqAt.list_str y t pl.isList hu'
      | dct ys => exact nomatch fe
      | tup ys =>
        obtain ⟨l2, vs2, rfl, k2, _⟩ := he
        cases rb
        obtain ⟨its2, _, pl2, _⟩ := I.tuple k2
        exact EqAt.list_tuple pl.isList pl2 hu'
      | lst ys =>
        obtain ⟨l2, vs2, rfl, k2, kr2⟩ := he
        cases rb
        obtain ⟨its2, rv2, pl2, _⟩ := I.list k2
        by_cases hl : l = l2
        · subst hl
          have := RV.uniq I hd0 he0 fd
          rw [← this, D.eq_refl _ fd]
          exact EqAt.same _
        · refine EqAt.of_refs hl ?_
          have l1 : its.toArray.size = xs.length := by rw [List.size_toArray, ← rv.length, RVs.len kr]
          have l2' : its2.toArray.size = ys.length := by rw [List.size_toArray, ← rv2.length, RVs.len kr2]
          by_cases hz : xs.length = ys.length
          · have key := RcAt.lists (e := pairE xs ys) pl.isList pl2.isList (by omega) hu' fun j h1 h2 => by
              obtain ⟨v1, q1, q2⟩ := ZS.at kr rv j h1
              obtain ⟨v2, q3, q4⟩ := ZS.at kr2 rv2 j h2
              exact ih (Nat.le_trans dep_mem (by simp only [D.dep] at hn; omega)) q1 q3 q2 q4 (flat_mem fd) (flat_mem fe) hui
            have e1 : (List.range its.toArray.size).all (pairE xs ys) = D.eq (.lst xs) (.lst ys) := by
              show _ = D.eq.eqs xs ys
              rw [← eqs_range xs ys, l1, hz, Nat.min_self]
              simp
            rw [← e1]
            exact key
          · have e1 : D.eq (.lst xs) (.lst ys) = false := eqs_len hz
            rw [e1]
            exact RcAt.lists_lengths pl.isList pl2.isList (by rw [l1, l2']; simpa using hz) hu'
    | tup xs =>
      have hd0 := hd
      have he0 := he
      obtain ⟨l, vs, rfl, k, kr⟩ := hd
      cases ra
      obtain ⟨its, rv, pl, _⟩ := I.tuple k
      cases e with
      | non => cases (show w = V.non from he); cases rb; exact EqAt.tuple_none pl hu'
      | bl y => cases (show w = V.bl y from he); cases rb; exact EqAt.tuple_bool y pl hu'
      | int y => cases (show w = V.int y from he); obtain ⟨t, rfl⟩ := rb; exact EqAt.tuple_int y t pl hu'
      | str y => cases (show w = V.str y from he); obtain ⟨t, rfl⟩ := rb; exact EqAt.tuple_str y t pl hu'
      | dct ys => exact nomatch fe
      | lst ys =>
        obtain ⟨l2, vs2, rfl, k2, _⟩ := he
        cases rb
        obtain ⟨its2, _, pl2, _⟩ := I.list k2
        exact EqAt.tuple_list pl pl2.isList hu'
      | tup ys =>
        obtain ⟨l2, vs2, rfl, k2, kr2⟩ := he
        cases rb
        obtain ⟨its2, rv2, pl2, _⟩ := I.tuple k2
        by_cases hl : l = l2
        · subst hl
          have := RV.uniq I hd0 he0 fd
          rw [← this, D.eq_refl _ fd]
          exact EqAt.same _
        · refine EqAt.of_refs hl ?_
          have l1 : its.toArray.size = xs.length := by rw [List.size_toArray, ← rv.length, RVs.len kr]
          have l2' : its2.toArray.size = ys.length := by rw [List.size_toArray, ← rv2.length, RVs.len kr2]
          have key := RcAt.tuples (e := pairE xs ys) pl pl2 hu' fun j h1 h2 => by
            obtain ⟨v1, q1, q2⟩ := ZS.at kr rv j h1
            obtain ⟨v2, q3, q4⟩ := ZS.at kr2 rv2 j h2
            exact ih (Nat.le_trans dep_mem (by simp only [D.dep] at hn; omega)) q1 q3 q2 q4 (flat_mem fd) (flat_mem fe) hui
          have e1 : ((List.range (min its.toArray.size its2.toArray.size)).all (pairE xs ys) && its.toArray.size == its2.toArray.size) = D.eq (.tup xs) (.tup ys) := by
            show _ = D.eq.eqs xs ys
            rw [← eqs_range xs ys, l1, l2']
          rw [← e1]
          exact key
    | dct xs => exact nomatch fd
    | non => exact ih (Nat.zero_le _) hd he ra rb fd fe (by omega)
    | bl x => exact ih (Nat.zero_le _) hd he ra rb fd fe (by omega)
    | int x => exact ih (Nat.zero_le _) hd he ra rb fd fe (by omega)
    | str x => exact ih (Nat.zero_le _) hd he ra rb fd fe (by omega)
theorem rcAt_D (I : Inv X pins σ H s) {d e : D} {v w : V} {a b : Value} {A : Around} (hn : D.dep d ≤ 60) (hd : RV X.K H d v) (he : RV X.K H e w) (ra : RelV v a) (rb : RelV w b) (fd : D.flat d = true) (fe : D.flat e = true) (hu : A.units + 100 < cLine) : RcAt A s a b (D.eq d e) := by
  have hu1 : A.units < cLine := by omega
  have hui : A.in1.units + 60 + 1 < cLine := by show A.units + 1 + 60 + 1 < cLine; omega
  cases d with
  | non =>
    cases (show v = V.non from hd)
    cases ra
    cases e with
    | non =>
      cases (show w = V.non from he)
      cases rb
      exact RcAt.none_none 
    | bl y =>
      cases (show w = V.bl y from he)
      cases rb
      exact RcAt.none_bool y
    | int y =>
      cases (show w = V.int y from he)
      obtain ⟨t, rfl⟩ := rb
      exact RcAt.none_int y t
    | str y =>
      cases (show w = V.str y from he)
      obtain ⟨t, rfl⟩ := rb
      exact RcAt.none_str y t
    | lst ys =>
      obtain ⟨l, vs, rfl, k, _⟩ := he
      cases rb
      obtain ⟨its, _, pl, _⟩ := I.list k
      exact RcAt.none_list pl.isList hu1
    | tup ys =>
      obtain ⟨l, vs, rfl, k, _⟩ := he
      cases rb
      obtain ⟨its, _, pl, _⟩ := I.tuple k
      exact RcAt.none_tuple pl hu1
    | dct ys => exact nomatch fe
  | bl x =>
    cases (show v = V.bl x from hd)
    cases ra
    cases e with
    | non =>
      cases (show w = V.non from he)
      cases rb
      exact RcAt.bool_none x
    | bl y =>
      cases (show w = V.bl y from he)
      cases rb
      exact RcAt.bool_bool x y
    | int y =>
      cases (show w = V.int y from he)
      obtain ⟨t, rfl⟩ := rb
      exact RcAt.bool_int x y t
    | str y =>
      cases (show w = V.str y from he)
      obtain ⟨t, rfl⟩ := rb
      exact RcAt.bool_str x y t
    | lst ys =>
      obtain ⟨l, vs, rfl, k, _⟩ := he
      cases rb
      obtain ⟨its, _, pl, _⟩ := I.list k
      exact RcAt.bool_list x pl.isList hu1
    | tup ys =>
      obtain ⟨l, vs, rfl, k, _⟩ := he
      cases rb
      obtain ⟨its, _, pl, _⟩ := I.tuple k
      exact RcAt.bool_tuple x pl hu1
    | dct ys => exact nomatch fe
  | int x =>
    cases (show v = V.int x from hd)
    obtain ⟨t0, rfl⟩ := ra
    cases e with
    | non =>
      cases (show w = V.non from he)
      cases rb
      exact RcAt.int_none x t0
    | bl y =>
      cases (show w = V.bl y from he)
      cases rb
      exact RcAt.int_bool x t0 y
    | int y =>
      cases (show w = V.int y from he)
      obtain ⟨t, rfl⟩ := rb
      exact RcAt.int_int x t0 y t
    | str y =>
      cases (show w = V.str y from he)
      obtain ⟨t, rfl⟩ := rb
      exact RcAt.int_str x t0 y t
    | lst ys =>
      obtain ⟨l, vs, rfl, k, _⟩ := he
      cases rb
      obtain ⟨its, _, pl, _⟩ := I.list k
      exact RcAt.int_list x t0 pl.isList hu1
    | tup ys =>
      obtain ⟨l, vs, rfl, k, _⟩ := he
      cases rb
      obtain ⟨its, _, pl, _⟩ := I.tuple k
      exact RcAt.int_tuple x t0 pl hu1
    | dct ys => exact nomatch fe
  | str x =>
    cases (show v = V.str x from hd)
    obtain ⟨t0, rfl⟩ := ra
    cases e with
    | non =>
      cases (show w = V.non from he)
      cases rb
      exact RcAt.str_none x t0
    | bl y =>
      cases (show w = V.bl y from he)
      cases rb
      exact RcAt.str_bool x t0 y
    | int y =>
      cases (show w = V.int y from he)
      obtain ⟨t, rfl⟩ := rb
      exact RcAt.str_int x t0 y t
    | str y =>
      cases (show w = V.str y from he)
      obtain ⟨t, rfl⟩ := rb
      exact RcAt.str_str x t0 y t
    | lst ys =>
      obtain ⟨l, vs, rfl, k, _⟩ := he
      cases rb
      obtain ⟨its, _, pl, _⟩ := I.list k
      exact RcAt.str_list x t0 pl.isList hu1
    | tup ys =>
      obtain ⟨l, vs, rfl, k, _⟩ := he
      cases rb
      obtain ⟨its, _, pl, _⟩ := I.tuple k
      exact RcAt.str_tuple x t0 pl hu1
    | dct ys => exact nomatch fe
  | lst xs =>
    obtain ⟨l, vs, rfl, k, kr⟩ := hd
    cases ra
    obtain ⟨its, rv, pl, _⟩ := I.list k
    cases e with
    | non =>
      cases (show w = V.non from he)
      cases rb
      exact RcAt.list_none pl.isList hu1
    | bl y =>
      cases (show w = V.bl y from he)
      cases rb
      exact RcAt.list_bool y pl.isList hu1
    | int y =>
      cases (show w = V.int y from he)
      obtain ⟨t, rfl⟩ := rb
      exact RcAt.list_int y t pl.isList hu1
    | str y =>
      cases (show w = V.str y from he)
      obtain ⟨t, rfl⟩ := rb
      exact RcAt.list_str y t pl.isList hu1
    | lst ys =>
      obtain ⟨l2, vs2, rfl, k2, kr2⟩ := he
      cases rb
      obtain ⟨its2, rv2, pl2, _⟩ := I.list k2
      have l1 : its.toArray.size = xs.length := by rw [List.size_toArray, ← rv.length, RVs.len kr]
      have l2x : its2.toArray.size = ys.length := by rw [List.size_toArray, ← rv2.length, RVs.len kr2]
      by_cases hz : xs.length = ys.length
      · have key := RcAt.lists (e := pairE xs ys) pl.isList pl2.isList (by omega) hu1 fun j h1 h2 => by
          obtain ⟨v1, q1, q2⟩ := ZS.at kr rv j h1
          obtain ⟨v2, q3, q4⟩ := ZS.at kr2 rv2 j h2
          exact eqAt_D I 60 (Nat.le_trans dep_mem (by simp only [D.dep] at hn; omega)) q1 q3 q2 q4 (flat_mem fd) (flat_mem fe) hui
        have e1 : (List.range its.toArray.size).all (pairE xs ys) = D.eq (.lst xs) (.lst ys) := by
          show _ = D.eq.eqs xs ys
          rw [← eqs_range xs ys, l1, hz, Nat.min_self]
          simp
        rw [← e1]
        exact key
      · have e1 : D.eq (.lst xs) (.lst ys) = false := eqs_len hz
        rw [e1]
        exact RcAt.lists_lengths pl.isList pl2.isList (by rw [l1, l2x]; simpa using hz) hu1
    | tup ys =>
      obtain ⟨l2, vs2, rfl, k2, kr2⟩ := he
      cases rb
      obtain ⟨its2, rv2, pl2, _⟩ := I.tuple k2
      exact RcAt.list_tuple pl.isList pl2 hu1
    | dct ys => exact nomatch fe
  | tup xs =>
    obtain ⟨l, vs, rfl, k, kr⟩ := hd
    cases ra
    obtain ⟨its, rv, pl, _⟩ := I.tuple k
    cases e with
    | non =>
      cases (show w = V.non from he)
      cases rb
      exact RcAt.tuple_none pl hu1
    | bl y =>
      cases (show w = V.bl y from he)
      cases rb
      exact RcAt.tuple_bool y pl hu1
    | int y =>
      cases (show w = V.int y from he)
      obtain ⟨t, rfl⟩ := rb
      exact RcAt.tuple_int y t pl hu1
    | str y =>
      cases (show w = V.str y from he)
      obtain ⟨t, rfl⟩ := rb
      exact RcAt.tuple_str y t pl hu1
    | lst ys =>
      obtain ⟨l2, vs2, rfl, k2, kr2⟩ := he
      cases rb
      obtain ⟨its2, rv2, pl2, _⟩ := I.list k2
      exact RcAt.tuple_list pl pl2.isList hu1
    | tup ys =>
      obtain ⟨l2, vs2, rfl, k2, kr2⟩ := he
      cases rb
      obtain ⟨its2, rv2, pl2, _⟩ := I.tuple k2
      have l1 : its.toArray.size = xs.length := by rw [List.size_toArray, ← rv.length, RVs.len kr]
      have l2x : its2.toArray.size = ys.length := by rw [List.size_toArray, ← rv2.length, RVs.len kr2]
      have key := RcAt.tuples (e := pairE xs ys) pl pl2 hu1 fun j h1 h2 => by
          obtain ⟨v1, q1, q2⟩ := ZS.at kr rv j h1
          obtain ⟨v2, q3, q4⟩ := ZS.at kr2 rv2 j h2
          exact eqAt_D I 60 (Nat.le_trans dep_mem (by simp only [D.dep] at hn; omega)) q1 q3 q2 q4 (flat_mem fd) (flat_mem fe) hui
      have e1 : ((List.range (min its.toArray.size its2.toArray.size)).all (pairE xs ys) && its.toArray.size == its2.toArray.size) = D.eq (.tup xs) (.tup ys) := by
        show _ = D.eq.eqs xs ys
        rw [← eqs_range xs ys, l1, l2x]
      rw [← e1]
      exact key
    | dct ys => exact nomatch fe
  | dct xs => exact nomatch fd
theorem rcNe_D (I : Inv X pins σ H s) {d e : D} {v w : V} {a b : Value} {A : Around} (hn : D.dep d ≤ 60) (hd : RV X.K H d v) (he : RV X.K H e w) (ra : RelV v a) (rb : RelV w b) (fd : D.flat d = true) (fe : D.flat e = true) (hu : A.units + 100 < cLine) : RcNeAt A s a b (!D.eq d e) := by
  have hu1 : A.units < cLine := by omega
  have hui : A.in1.units + 60 + 1 < cLine := by show A.units + 1 + 60 + 1 < cLine; omega
  cases d with
  | non =>
    cases (show v = V.non from hd)
    cases ra
    cases e with
    | non =>
      cases (show w = V.non from he)
      cases rb
      exact RcNeAt.none_none 
    | bl y =>
      cases (show w = V.bl y from he)
      cases rb
      exact RcNeAt.none_bool y
    | int y =>
      cases (show w = V.int y from he)
      obtain ⟨t, rfl⟩ := rb
      exact RcNeAt.none_int y t
    | str y =>
      cases (show w = V.str y from he)
      obtain ⟨t, rfl⟩ := rb
      exact RcNeAt.none_str y t
    | lst ys =>
      obtain ⟨l, vs, rfl, k, _⟩ := he
      cases rb
      obtain ⟨its, _, pl, _⟩ := I.list k
      exact RcNeAt.none_list pl.isList hu1
    | tup ys =>
      obtain ⟨l, vs, rfl, k, _⟩ := he
      cases rb
      obtain ⟨its, _, pl, _⟩ := I.tuple k
      exact RcNeAt.none_tuple pl hu1
    | dct ys => exact nomatch fe
  | bl x =>
    cases (show v = V.bl x from hd)
    cases ra
    cases e with
    | non =>
      cases (show w = V.non from he)
      cases rb
      exact RcNeAt.bool_none x
    | bl y =>
      cases (show w = V.bl y from he)
      cases rb
      exact RcNeAt.bool_bool x y
    | int y =>
      cases (show w = V.int y from he)
      obtain ⟨t, rfl⟩ := rb
      exact RcNeAt.bool_int x y t
    | str y =>
      cases (show w = V.str y from he)
      obtain ⟨t, rfl⟩ := rb
      exact RcNeAt.bool_str x y t
    | lst ys =>
      obtain ⟨l, vs, rfl, k, _⟩ := he
      cases rb
      obtain ⟨its, _, pl, _⟩ := I.list k
      exact RcNeAt.bool_list x pl.isList hu1
    | tup ys =>
      obtain ⟨l, vs, rfl, k, _⟩ := he
      cases rb
      obtain ⟨its, _, pl, _⟩ := I.tuple k
      exact RcNeAt.bool_tuple x pl hu1
    | dct ys => exact nomatch fe
  | int x =>
    cases (show v = V.int x from hd)
    obtain ⟨t0, rfl⟩ := ra
    cases e with
    | non =>
      cases (show w = V.non from he)
      cases rb
      exact RcNeAt.int_none x t0
    | bl y =>
      cases (show w = V.bl y from he)
      cases rb
      exact RcNeAt.int_bool x t0 y
    | int y =>
      cases (show w = V.int y from he)
      obtain ⟨t, rfl⟩ := rb
      exact RcNeAt.int_int x t0 y t
    | str y =>
      cases (show w = V.str y from he)
      obtain ⟨t, rfl⟩ := rb
      exact RcNeAt.int_str x t0 y t
    | lst ys =>
      obtain ⟨l, vs, rfl, k, _⟩ := he
      cases rb
      obtain ⟨its, _, pl, _⟩ := I.list k
      exact RcNeAt.int_list x t0 pl.isList hu1
    | tup ys =>
      obtain ⟨l, vs, rfl, k, _⟩ := he
      cases rb
      obtain ⟨its, _, pl, _⟩ := I.tuple k
      exact RcNeAt.int_tuple x t0 pl hu1
    | dct ys => exact nomatch fe
  | str x =>
    cases (show v = V.str x from hd)
    obtain ⟨t0, rfl⟩ := ra
    cases e with
    | non =>
      cases (show w = V.non from he)
      cases rb
      exact RcNeAt.str_none x t0
    | bl y =>
      cases (show w = V.bl y from he)
      cases rb
      exact RcNeAt.str_bool x t0 y
    | int y =>
      cases (show w = V.int y from he)
      obtain ⟨t, rfl⟩ := rb
      exact RcNeAt.str_int x t0 y t
    | str y =>
      cases (show w = V.str y from he)
      obtain ⟨t, rfl⟩ := rb
      exact RcNeAt.str_str x t0 y t
    | lst ys =>
      obtain ⟨l, vs, rfl, k, _⟩ := he
      cases rb
      obtain ⟨its, _, pl, _⟩ := I.list k
      exact RcNeAt.str_list x t0 pl.isList hu1
    | tup ys =>
      obtain ⟨l, vs, rfl, k, _⟩ := he
      cases rb
      obtain ⟨its, _, pl, _⟩ := I.tuple k
      exact RcNeAt.str_tuple x t0 pl hu1
    | dct ys => exact nomatch fe
  | lst xs =>
    obtain ⟨l, vs, rfl, k, kr⟩ := hd
    cases ra
    obtain ⟨its, rv, pl, _⟩ := I.list k
    cases e with
    | non =>
      cases (show w = V.non from he)
      cases rb
      exact RcNeAt.list_none pl.isList hu1
    | bl y =>
      cases (show w = V.bl y from he)
      cases rb
      exact RcNeAt.list_bool y pl.isList hu1
    | int y =>
      cases (show w = V.int y from he)
      obtain ⟨t, rfl⟩ := rb
      exact RcNeAt.list_int y t pl.isList hu1
    | str y =>
      cases (show w = V.str y from he)
      obtain ⟨t, rfl⟩ := rb
      exact RcNeAt.list_str y t pl.isList hu1
    | lst ys =>
      obtain ⟨l2, vs2, rfl, k2, kr2⟩ := he
      cases rb
      obtain ⟨its2, rv2, pl2, _⟩ := I.list k2
      have l1 : its.toArray.size = xs.length := by rw [List.size_toArray, ← rv.length, RVs.len kr]
      have l2x : its2.toArray.size = ys.length := by rw [List.size_toArray, ← rv2.length, RVs.len kr2]
      by_cases hz : xs.length = ys.length
      · have key := RcNeAt.lists (e := pairE xs ys) pl.isList pl2.isList (by omega) hu1 fun j h1 h2 => by
          obtain ⟨v1, q1, q2⟩ := ZS.at kr rv j h1
          obtain ⟨v2, q3, q4⟩ := ZS.at kr2 rv2 j h2
          exact eqAt_D I 60 (Nat.le_trans dep_mem (by simp only [D.dep] at hn; omega)) q1 q3 q2 q4 (flat_mem fd) (flat_mem fe) hui
        have e1 : (List.range its.toArray.size).all (pairE xs ys) = D.eq (.lst xs) (.lst ys) := by
          show _ = D.eq.eqs xs ys
          rw [← eqs_range xs ys, l1, hz, Nat.min_self]
          simp
        rw [← e1]
        exact key
      · have e1 : D.eq (.lst xs) (.lst ys) = false := eqs_len hz
        rw [e1]
        exact RcNeAt.lists_lengths pl.isList pl2.isList (by rw [l1, l2x]; simpa using hz) hu1
    | tup ys =>
      obtain ⟨l2, vs2, rfl, k2, kr2⟩ := he
      cases rb
      obtain ⟨its2, rv2, pl2, _⟩ := I.tuple k2
      exact RcNeAt.list_tuple pl.isList pl2 hu1
    | dct ys => exact nomatch fe
  | tup xs =>
    obtain ⟨l, vs, rfl, k, kr⟩ := hd
    cases ra
    obtain ⟨its, rv, pl, _⟩ := I.tuple k
    cases e with
    | non =>
      cases (show w = V.non from he)
      cases rb
      exact RcNeAt.tuple_none pl hu1
    | bl y =>
      cases (show w = V.bl y from he)
      cases rb
      exact RcNeAt.tuple_bool y pl hu1
    | int y =>
      cases (show w = V.int y from he)
      obtain ⟨t, rfl⟩ := rb
      exact RcNeAt.tuple_int y t pl hu1
    | str y =>
      cases (show w = V.str y from he)
      obtain ⟨t, rfl⟩ := rb
      exact RcNeAt.tuple_str y t pl hu1
    | lst ys =>
      obtain ⟨l2, vs2, rfl, k2, kr2⟩ := he
      cases rb
      obtain ⟨its2, rv2, pl2, _⟩ := I.list k2
      exact RcNeAt.tuple_list pl pl2.isList hu1
    | tup ys =>
      obtain ⟨l2, vs2, rfl, k2, kr2⟩ := he
      cases rb
      obtain ⟨its2, rv2, pl2, _⟩ := I.tuple k2
      have l1 : its.toArray.size = xs.length := by rw [List.size_toArray, ← rv.length, RVs.len kr]
      have l2x : its2.toArray.size = ys.length := by rw [List.size_toArray, ← rv2.length, RVs.len kr2]
      have key := RcNeAt.tuples (e := pairE xs ys) pl pl2 hu1 fun j h1 h2 => by
          obtain ⟨v1, q1, q2⟩ := ZS.at kr rv j h1
          obtain ⟨v2, q3, q4⟩ := ZS.at kr2 rv2 j h2
          exact eqAt_D I 60 (Nat.le_trans dep_mem (by simp only [D.dep] at hn; omega)) q1 q3 q2 q4 (flat_mem fd) (flat_mem fe) hui
      have e1 : ((List.range (min its.toArray.size its2.toArray.size)).all (pairE xs ys) && its.toArray.size == its2.toArray.size) = D.eq (.tup xs) (.tup ys) := by
        show _ = D.eq.eqs xs ys
        rw [← eqs_range xs ys, l1, l2x]
      rw [← e1]
      exact key
    | dct ys => exact nomatch fe
  | dct xs => exact nomatch fd
end
end VL

/-! VL4: the operators and built-ins, by data. -/
namespace VL
open PySem PySem.Spec L2

def depOk (d : D) : Bool := decide (d.dep ≤ 60)
/-- no list within -/
def D.noL : D → Bool
  | .tup xs => noLs xs
  | .lst _ => false
  | _ => true
where
  noLs : List D → Bool
    | [] => true
    | d :: r => D.noL d && noLs r
/-- repr's text, where it is known -/
def shownD (d : D) : Option Str := if (d.flat || d.noL) && d.toP.showable && decide (d.toP.depth ≤ 100) && decide (d.toP.shown.length ≤ line) then some d.toP.shown else none
abbrev ap (o : Op) (ds : List D) : Option D := o.ap shownD ds

/-- seen from outside: frozen, or an object of one's own -/
def VW (K : PySem.W.Frag) (G H : Hp) (d : D) (v : V) : Prop := RV K G d v ∨ ∃ a, v = .ref a ∧ OV K G H d a
def VWs (K : PySem.W.Frag) (G H : Hp) : List D → List V → Prop
  | [], vs => vs = []
  | d :: ds, vs => ∃ v r, vs = v :: r ∧ VW K G H d v ∧ VWs K G H ds r
/-- a new object for d -/
def NewO (K : PySem.W.Frag) (G : Hp) : D → HO → Prop
  | .lst ds, o => ∃ vs, o = .lst vs ∧ RVs K G ds vs
  | .tup ds, o => ∃ vs, o = .tup vs ∧ RVs K G ds vs
  | .dct kvs, o => kvs = [] ∧ o = .dK []
  | _, _ => False
/-- what must hold behind an operation that gives d; b: nothing that changes may be an old object -/
structure OpPost (K : PySem.W.Frag) (G H : Hp) (b : Bool) (d : D) (Q : VK) : Prop where
  old : ∀ v, (b = true → d.mutb = false) → RV K G d v → Q v H
  new : ∀ p o, H p = none → NewO K G d o → Q (.ref p) (upd H p o)
structure XG (X : Cx) : Prop where
  calm : X.calm = true
  guards : X.A.guards = some []
  units : X.A.units + 200 < cLine

section
variable {K : PySem.W.Frag} {G H : Hp}
theorem VW.rv {d : D} {v : V} (g : Same G H) (h : VW K G H d v) : RV K H d v := by
  rcases h with h | ⟨a, rfl, h⟩
  · exact h.mono g
  · obtain ⟨o, e⟩ := h.there
    exact h.rv e g e
theorem VW.lst {ds : List D} {v : V} (g : Same G H) (h : VW K G H (.lst ds) v) : ∃ a vs, v = .ref a ∧ SqL K H a vs ∧ RVs K G ds vs := by
  rcases h with ⟨a, vs, e, h1, h2⟩ | ⟨a, e, vs, h1, h2⟩
  · exact ⟨a, vs, e, g.seq h1, h2⟩
  · exact ⟨a, vs, e, SqL.of h1, h2⟩
theorem VW.tup {ds : List D} {v : V} (g : Same G H) (h : VW K G H (.tup ds) v) : ∃ a vs, v = .ref a ∧ SqT K H a vs ∧ RVs K G ds vs := by
  rcases h with ⟨a, vs, e, h1, h2⟩ | ⟨a, e, h⟩
  · exact ⟨a, vs, e, SqT.mono g h1, h2⟩
  · exact h.elim
theorem VW.tupRV {ds : List D} {v : V} (h : VW K G H (.tup ds) v) : RV K G (.tup ds) v := by
  rcases h with h | ⟨a, e, h⟩
  · exact h
  · exact h.elim
theorem VW.dct {ds : List (D × D)} {v : V} (g : Same G H) (h : VW K G H (.dct ds) v) : ∃ a, v = .ref a ∧ ds = [] ∧ H a = some (.dK []) := by
  rcases h with ⟨a, e, h1, h2⟩ | ⟨a, e, h1, h2⟩
  · exact ⟨a, e, h1, g _ _ h2⟩
  · exact ⟨a, e, h1, h2⟩
theorem VW.int {i : Int} {v : V} (h : VW K G H (.int i) v) : v = .int i := by
  rcases h with h | ⟨a, e, h⟩
  · exact h
  · exact h.elim
theorem VW.bl {i : Bool} {v : V} (h : VW K G H (.bl i) v) : v = .bl i := by
  rcases h with h | ⟨a, e, h⟩
  · exact h
  · exact h.elim
theorem VW.str {i : Str} {v : V} (h : VW K G H (.str i) v) : v = .str i := by
  rcases h with h | ⟨a, e, h⟩
  · exact h
  · exact h.elim
theorem VW.non {v : V} (h : VW K G H .non v) : v = .non := by
  rcases h with h | ⟨a, e, h⟩
  · exact h
  · exact h.elim
theorem VWs.one {d : D} {vs : List V} (h : VWs K G H [d] vs) : ∃ v, vs = [v] ∧ VW K G H d v := by
  obtain ⟨v, r, e, h1, h2⟩ := h
  cases (show r = [] from h2)
  exact ⟨v, e, h1⟩
theorem VWs.two {d e : D} {vs : List V} (h : VWs K G H [d, e] vs) : ∃ v w, vs = [v, w] ∧ VW K G H d v ∧ VW K G H e w := by
  obtain ⟨v, r, e1, h1, h2⟩ := h
  obtain ⟨w, e2, h3⟩ := VWs.one h2
  subst e2
  exact ⟨v, w, e1, h1, h3⟩
theorem VWs.nil_inv {vs : List V} (h : VWs K G H [] vs) : vs = [] := h
theorem VWs.of_RVs : ∀ {ds : List D} {vs : List V}, RVs K G ds vs → VWs K G H ds vs
  | [], _, h => h
  | d :: ds, _, ⟨v, r, e, h1, h2⟩ => ⟨v, r, e, .inl h1, VWs.of_RVs h2⟩
end


def rD2 (K : PySem.W.Frag) (o : Op) (b : Bool) : R2 := fun x y H Q => ∃ (G : Hp) (d1 d2 d : D), Same G H ∧ VW K G H d1 x ∧ VW K G H d2 y ∧ ap o [d1, d2] = some d ∧ OpPost K G H b d Q
def rD1 (K : PySem.W.Frag) (o : Op) (b : Bool) : V → Hp → VK → Prop := fun x H Q => ∃ (G : Hp) (d1 d : D), Same G H ∧ VW K G H d1 x ∧ ap o [d1] = some d ∧ OpPost K G H b d Q
def rDn (K : PySem.W.Frag) (o : Op) (b : Bool) : List V → Hp → VK → Prop := fun xs H Q => ∃ (G : Hp) (ds : List D) (d : D), Same G H ∧ VWs K G H ds xs ∧ ap o ds = some d ∧ OpPost K G H b d Q

theorem cmp_of {d : D} (h : d.cmp = true) : D.flat d = true ∧ D.dep d ≤ 60 := by
  unfold D.cmp at h
  simp only [Bool.and_eq_true, decide_eq_true_eq] at h
  exact h
theorem bl_post {K : PySem.W.Frag} {G H : Hp} {b c : Bool} {Q : VK} (q : OpPost K G H b (.bl c) Q) : Q (.bl c) H := q.old _ (fun _ => rfl) rfl
theorem int_post {K : PySem.W.Frag} {G H : Hp} {b : Bool} {i : Int} {Q : VK} (q : OpPost K G H b (.int i) Q) : Q (.int i) H := q.old _ (fun _ => rfl) rfl
theorem str_post {K : PySem.W.Frag} {G H : Hp} {b : Bool} {i : Str} {Q : VK} (q : OpPost K G H b (.str i) Q) : Q (.str i) H := q.old _ (fun _ => rfl) rfl
theorem ite_some {α : Type} {c : Bool} {a b : α} (h : (if c = true then some a else none) = some b) : c = true ∧ a = b := by
  cases c with
  | true => exact ⟨rfl, Option.some.inj h⟩
  | false => cases h

section
variable {X : Cx}
/-! ### comparisons -/
theorem r2_eq (g : XG X) : OpR X (compareOp .Eq) (rD2 X.K .eq true) := by
  intro pins s σ H x y v u Q I rx ry h
  obtain ⟨G, d1, d2, d, gg, h1, h2, ha, q⟩ := h
  obtain ⟨hc, rfl⟩ := ite_some (c := d1.cmp && d2.cmp) (a := D.bl (D.eq d1 d2)) ha
  simp only [Bool.and_eq_true] at hc
  have hu := g.units
  obtain ⟨f1, k1⟩ := cmp_of hc.1
  obtain ⟨f2, k2⟩ := cmp_of hc.2
  exact rcAt_D I k1 (h1.rv gg) (h2.rv gg) rx ry f1 f2 (by omega) X.prog X.w X.xe _ ⟨.bl _, H, I, rfl, bl_post q⟩
theorem r2_ne (g : XG X) : OpR X (compareOp .NotEq) (rD2 X.K .ne true) := by
  intro pins s σ H x y v u Q I rx ry h
  obtain ⟨G, d1, d2, d, gg, h1, h2, ha, q⟩ := h
  obtain ⟨hc, rfl⟩ := ite_some (c := d1.cmp && d2.cmp) (a := D.bl (!D.eq d1 d2)) ha
  simp only [Bool.and_eq_true] at hc
  have hu := g.units
  obtain ⟨f1, k1⟩ := cmp_of hc.1
  obtain ⟨f2, k2⟩ := cmp_of hc.2
  exact rcNe_D I k1 (h1.rv gg) (h2.rv gg) rx ry f1 f2 (by omega) X.prog X.w X.xe _ ⟨.bl _, H, I, rfl, bl_post q⟩
theorem two_ints {o : Op} {d1 d2 d : D} (f : Int → Int → Option D) (hf : ∀ i j, ap o [.int i, .int j] = f i j) (hn : ∀ d1 d2, (∀ i j, ¬ (d1 = .int i ∧ d2 = .int j)) → ap o [d1, d2] = none) (h : ap o [d1, d2] = some d) : ∃ i j, d1 = .int i ∧ d2 = .int j ∧ f i j = some d := by
  by_cases z : ∃ i j, d1 = .int i ∧ d2 = .int j
  · obtain ⟨i, j, rfl, rfl⟩ := z
    exact ⟨i, j, rfl, rfl, (hf i j).symm.trans h⟩
  · rw [hn d1 d2 fun i j q => z ⟨i, j, q⟩] at h
    cases h
theorem no2 {o : Op} (hn : ∀ d1 d2, (∀ i j, ¬ (d1 = D.int i ∧ d2 = D.int j)) → ap o [d1, d2] = none) : True := trivial
theorem r2_lt : OpR X (compareOp .Lt) (rD2 X.K .lt true) := by
  intro pins s σ H x y v u Q I rx ry h
  obtain ⟨G, d1, d2, d, gg, h1, h2, ha, q⟩ := h
  cases d1 <;> try (cases ha; done)
  cases d2 <;> try (cases ha; done)
  cases ha
  exact op_lt pins s σ H x y v u Q I rx ry ⟨_, _, h1.int, h2.int, bl_post q⟩
theorem r2_le : OpR X (compareOp .LtE) (rD2 X.K .le true) := by
  intro pins s σ H x y v u Q I rx ry h
  obtain ⟨G, d1, d2, d, gg, h1, h2, ha, q⟩ := h
  cases d1 <;> try (cases ha; done)
  cases d2 <;> try (cases ha; done)
  cases ha
  exact op_le pins s σ H x y v u Q I rx ry ⟨_, _, h1.int, h2.int, bl_post q⟩
theorem r2_gt : OpR X (compareOp .Gt) (rD2 X.K .gt true) := by
  intro pins s σ H x y v u Q I rx ry h
  obtain ⟨G, d1, d2, d, gg, h1, h2, ha, q⟩ := h
  cases d1 <;> try (cases ha; done)
  cases d2 <;> try (cases ha; done)
  cases ha
  exact op_gt pins s σ H x y v u Q I rx ry ⟨_, _, h1.int, h2.int, bl_post q⟩
theorem r2_ge : OpR X (compareOp .GtE) (rD2 X.K .ge true) := by
  intro pins s σ H x y v u Q I rx ry h
  obtain ⟨G, d1, d2, d, gg, h1, h2, ha, q⟩ := h
  cases d1 <;> try (cases ha; done)
  cases d2 <;> try (cases ha; done)
  cases ha
  exact op_ge pins s σ H x y v u Q I rx ry ⟨_, _, h1.int, h2.int, bl_post q⟩

/-! ### in -/
theorem one_sign {a : Str} {c : Nat} (h : a.cps.toList = [c]) : a = ⟨#[c]⟩ := by
  obtain ⟨cps⟩ := a
  have h' : cps.toList = [c] := h
  have : cps = #[c] := by
    apply Array.ext'
    simpa using h'
  rw [this]
/-- which of the raw items equal x -/
theorem in_fun {pins : List (Addr × Obj)} {σ : L2.St} {H : Hp} {s : Shared} {A : Around} (I : L2.Inv X pins σ H s) {x : V} {v : Value} {dx : D} (hx : RV X.K H dx x) (rx : RelV x v) (fx : D.flat dx = true) :
    ∀ {ds : List D} {vs : List V} {us : List Value}, RVs X.K H ds vs → Vals vs us → D.flat.flats ds = true → D.dep.deps ds ≤ 60 → A.units + 100 < cLine → ∃ e : Value → Bool, (∀ y ∈ us, SeqAt.EqAt A s y v (e y)) ∧ us.any e = inD dx ds := by
  intro ds vs us hr rr f dp hu
  have key : ∀ y ∈ us, ∃ d ∈ ds, SeqAt.EqAt A s y v (D.eq d dx) ∧ ∀ d' ∈ ds, ∀ w, RV X.K H d' w → RelV w y → d' = d := by
    intro y hy
    obtain ⟨j, hj, e⟩ := List.getElem_of_mem hy
    obtain ⟨w, h1, h2⟩ := ZS.at hr rr j (by simpa using hj)
    have h2' : RelV w y := by rw [← e]; simpa using h2
    have hl : ds.length = us.length := by rw [← rr.length, RVs.len hr]
    have hjd : j < ds.length := by omega
    have hm : ds.getD j .non ∈ ds := by
      rw [List.getD_eq_getElem?_getD, List.getElem?_eq_getElem hjd]
      exact List.getElem_mem hjd
    refine ⟨_, hm, eqAt_D I 60 (Nat.le_trans dep_mem dp) h1 hx h2' rx (flat_mem f) fx (by omega), fun d' hd' w' k1 k2 => ?_⟩
    have : w' = w := k2.inj h2'
    subst this
    obtain ⟨j', hj', e'⟩ := List.getElem_of_mem hd'
    have fd' : D.flat d' = true := by
      have := flat_mem (xs := ds) (j := j') f
      rwa [List.getD_eq_getElem?_getD, List.getElem?_eq_getElem hj', Option.getD_some, e'] at this
    exact RV.uniq I k1 h1 fd'
  classical
  let e : Value → Bool := fun y => if h : ∃ d ∈ ds, SeqAt.EqAt A s y v (D.eq d dx) ∧ ∃ w, RV X.K H d w ∧ RelV w y then D.eq (Classical.choose h) dx else false
  have he : ∀ (j : Nat) (hj : j < us.length), e us[j] = D.eq (ds.getD j .non) dx ∧ SeqAt.EqAt A s us[j] v (e us[j]) := by
    intro j hj
    obtain ⟨w, h1, h2⟩ := ZS.at hr rr j (by simpa using hj)
    have h2' : RelV w us[j] := by simpa using h2
    have hl : ds.length = us.length := by rw [← rr.length, RVs.len hr]
    have hjd : j < ds.length := by omega
    have hm : ds.getD j .non ∈ ds := by
      rw [List.getD_eq_getElem?_getD, List.getElem?_eq_getElem hjd]
      exact List.getElem_mem hjd
    have h3 := eqAt_D (A := A) I 60 (Nat.le_trans dep_mem dp) h1 hx h2' rx (flat_mem f) fx (by omega)
    have hex : ∃ d ∈ ds, SeqAt.EqAt A s us[j] v (D.eq d dx) ∧ ∃ w, RV X.K H d w ∧ RelV w us[j] := ⟨_, hm, h3, w, h1, h2'⟩
    have ee : e us[j] = D.eq (Classical.choose hex) dx := dif_pos hex
    obtain ⟨k1, k2, w', k3, k4⟩ := Classical.choose_spec hex
    have : w' = w := k4.inj h2'
    subst this
    have : Classical.choose hex = ds.getD j .non := by
      refine RV.uniq I k3 h1 ?_
      obtain ⟨j', hj', e'⟩ := List.getElem_of_mem k1
      have := flat_mem (xs := ds) (j := j') f
      rwa [List.getD_eq_getElem?_getD, List.getElem?_eq_getElem hj', Option.getD_some, e'] at this
    rw [this] at ee
    exact ⟨ee, by rw [ee]; exact h3⟩
  refine ⟨e, fun y hy => ?_, ?_⟩
  · obtain ⟨j, hj, ej⟩ := List.getElem_of_mem hy
    rw [← ej]
    exact (he j hj).2
  · have hl : ds.length = us.length := by rw [← rr.length, RVs.len hr]
    have hmap : us.map e = ds.map fun d => D.eq d dx := by
      apply List.ext_getElem (by simp [hl])
      intro j h1 h2
      have hj : j < us.length := by simpa using h1
      have hjd : j < ds.length := by omega
      rw [List.getElem_map, List.getElem_map, (he j hj).1, List.getD_eq_getElem?_getD, List.getElem?_eq_getElem hjd]
      rfl
    show us.any e = ds.any fun y => D.eq y dx
    have a1 : us.any e = (us.map e).any id := by rw [List.any_map]; rfl
    have a2 : (ds.any fun y => D.eq y dx) = (ds.map fun d => D.eq d dx).any id := by rw [List.any_map]; rfl
    rw [a1, a2, hmap]
theorem cmpl_of {ds : List D} (h : (D.lst ds).cmp = true) : D.flat.flats ds = true ∧ D.dep.deps ds ≤ 60 := by
  obtain ⟨h1, h2⟩ := cmp_of h
  refine ⟨h1, ?_⟩
  have : D.dep.deps ds + 1 ≤ 60 := h2
  omega
theorem r2_in (g : XG X) : OpR X (compareOp .In) (rD2 X.K .isin true) := by
  intro pins s σ H x y v u Q I rx ry h
  obtain ⟨G, d1, d2, d, gg, h1, h2, ha, q⟩ := h
  have hu := g.units
  have seqs : ∀ (ds : List D) (vs : List V) (us : List Value), RVs X.K G ds vs → Vals vs us → (d1.cmp && (D.lst ds).cmp) = true → ∃ e : Value → Bool, (∀ y ∈ us, SeqAt.EqAt X.A.in1 s y v (e y)) ∧ us.any e = inD d1 ds := fun ds vs us hr rr hc => by
    simp only [Bool.and_eq_true] at hc
    obtain ⟨f1, k1⟩ := cmp_of hc.1
    obtain ⟨f2, k2⟩ := cmpl_of hc.2
    exact in_fun I (h1.rv gg) rx f1 (RVs.mono gg hr) rr f2 k2 (by show X.A.units + 1 + 100 < cLine; omega)
  cases d2 with
  | str b =>
    cases d1 <;> try (cases ha; done)
    rename_i a
    have ha : (match a.cps.toList with
      | [c] => some (D.bl (decide (c ∈ b.cps.toList)))
      | _ => none) = some d := ha
    split at ha
    · rename_i c hc
      cases ha
      refine op_in_sign pins s σ H x y v u Q I rx ry ⟨c, b, ?_, h2.str, bl_post q⟩
      rw [h1.str, one_sign hc]
    · cases ha
  | lst ds =>
    have ha : (if (d1.cmp && (D.lst ds).cmp) = true then some (D.bl (inD d1 ds)) else none) = some d := by cases d1 <;> exact ha
    obtain ⟨hc, rfl⟩ := ite_some ha
    obtain ⟨a, vs, rfl, k1, k2⟩ := h2.lst gg
    cases ry
    obtain ⟨its, rv, pl, _⟩ := I.list k1
    obtain ⟨e, e1, e2⟩ := seqs ds vs its k2 rv hc
    exact SeqAt.in_listAt e pl.isList (fun y hy => e1 y (by simpa using hy)) ⟨.bl _, H, I, rfl, by rw [show its.toArray.any e = its.any e by simp, e2]; exact bl_post q⟩
  | tup ds =>
    have ha : (if (d1.cmp && (D.lst ds).cmp) = true then some (D.bl (inD d1 ds)) else none) = some d := by cases d1 <;> exact ha
    obtain ⟨hc, rfl⟩ := ite_some ha
    obtain ⟨a, vs, rfl, k1, k2⟩ := h2.tup gg
    cases ry
    obtain ⟨its, rv, pl, _⟩ := I.tuple k1
    obtain ⟨e, e1, e2⟩ := seqs ds vs its k2 rv hc
    exact SeqAt.in_tupleAt e pl (fun y hy => e1 y (by simpa using hy)) ⟨.bl _, H, I, rfl, by rw [show its.toArray.any e = its.any e by simp, e2]; exact bl_post q⟩
  | _ => cases d1 <;> cases ha
theorem r2_notin (g : XG X) : OpR X (compareOp .NotIn) (rD2 X.K .notin true) := by
  intro pins s σ H x y v u Q I rx ry h
  obtain ⟨G, d1, d2, d, gg, h1, h2, ha, q⟩ := h
  have hu := g.units
  have seqs : ∀ (ds : List D) (vs : List V) (us : List Value), RVs X.K G ds vs → Vals vs us → (d1.cmp && (D.lst ds).cmp) = true → ∃ e : Value → Bool, (∀ y ∈ us, SeqAt.EqAt X.A.in1 s y v (e y)) ∧ us.any e = inD d1 ds := fun ds vs us hr rr hc => by
    simp only [Bool.and_eq_true] at hc
    obtain ⟨f1, k1⟩ := cmp_of hc.1
    obtain ⟨f2, k2⟩ := cmpl_of hc.2
    exact in_fun I (h1.rv gg) rx f1 (RVs.mono gg hr) rr f2 k2 (by show X.A.units + 1 + 100 < cLine; omega)
  cases d2 with
  | str b =>
    cases d1 <;> try (cases ha; done)
    rename_i a
    have ha : (match a.cps.toList with
      | [c] => some (D.bl (!decide (c ∈ b.cps.toList)))
      | _ => none) = some d := ha
    split at ha
    · rename_i c hc
      cases ha
      refine op_notIn_sign pins s σ H x y v u Q I rx ry ⟨c, b, ?_, h2.str, bl_post q⟩
      rw [h1.str, one_sign hc]
    · cases ha
  | lst ds =>
    have ha : (if (d1.cmp && (D.lst ds).cmp) = true then some (D.bl (!inD d1 ds)) else none) = some d := by cases d1 <;> exact ha
    obtain ⟨hc, rfl⟩ := ite_some ha
    obtain ⟨a, vs, rfl, k1, k2⟩ := h2.lst gg
    cases ry
    obtain ⟨its, rv, pl, _⟩ := I.list k1
    obtain ⟨e, e1, e2⟩ := seqs ds vs its k2 rv hc
    exact SeqAt.notIn_listAt e pl.isList (fun y hy => e1 y (by simpa using hy)) ⟨.bl _, H, I, rfl, by rw [show its.toArray.any e = its.any e by simp, e2]; exact bl_post q⟩
  | tup ds =>
    have ha : (if (d1.cmp && (D.lst ds).cmp) = true then some (D.bl (!inD d1 ds)) else none) = some d := by cases d1 <;> exact ha
    obtain ⟨hc, rfl⟩ := ite_some ha
    obtain ⟨a, vs, rfl, k1, k2⟩ := h2.tup gg
    cases ry
    obtain ⟨its, rv, pl, _⟩ := I.tuple k1
    obtain ⟨e, e1, e2⟩ := seqs ds vs its k2 rv hc
    exact SeqAt.notIn_tupleAt e pl (fun y hy => e1 y (by simpa using hy)) ⟨.bl _, H, I, rfl, by rw [show its.toArray.any e = its.any e by simp, e2]; exact bl_post q⟩
  | _ => cases d1 <;> cases ha

/-! ### arithmetic, concatenation -/
theorem cat_lists {prog : Program} {w : World} {A : Around} {E : Value → Shared → Prop} {s : Shared} {p p2 : Addr} {us ws : List Value} {Q : Value → Shared → Prop} (h1 : s.heap.IsList p us.toArray) (h2 : s.heap.IsList p2 ws.toArray) (hsz : us.length + ws.length ≤ sizeLine)
    (h : Q (.ref s.heap.objs.size) { s with heap := s.heap.push { cls := .type "list", data := .seq (us ++ ws).toArray } }) : wpAny (model prog w) A (binaryOp .Add (.ref p) (.ref p2)) Q E s := by
  obtain ⟨⟨c1, d1, t1, sl1⟩, g1, hc1, n1, hd1⟩ := id h1
  obtain ⟨⟨c2, d2, t2, sl2⟩, g2, hc2, n2, hd2⟩ := id h2
  simp only at hc1 hd1 hc2 hd2
  subst hc1 hd1 hc2 hd2
  refine PySem.concat_meets ⟨_, g1, rfl⟩ ⟨_, g2, rfl⟩ PySem.noFill_list_add PySem.seq_list_add PySem.F.slot_list_add PySem.F.entry_list_add (PySem.F.args_list_add_2 _ _)
    (PyProof.Rows.list_addW p p2 us.toArray ws.toArray n1 n2 d1 d2 sl1 sl2 (by simpa using hsz)) ⟨g1, g2, ?_⟩
  have e : us.toArray ++ ws.toArray = (us ++ ws).toArray := by simp
  rw [e]
  exact h
theorem line_eq : line = sizeLine := by rw [sizeLine_eq]; rfl
theorem r2_add : OpR X (binaryOp .Add) (rD2 X.K .add true) := by
  intro pins s σ H x y v u Q I rx ry h
  obtain ⟨G, d1, d2, d, gg, h1, h2, ha, q⟩ := h
  cases d1 <;> cases d2 <;> try (cases ha; done)
  case int.int i j =>
    cases ha
    exact op_add pins s σ H x y v u Q I rx ry ⟨_, _, h1.int, h2.int, int_post q⟩
  case str.str a b =>
    have ha : (if a.length + b.length ≤ line then some (D.str (a ++ b)) else none) = some d := ha
    split at ha
    · rename_i hz
      cases ha
      exact op_add_str pins s σ H x y v u Q I rx ry ⟨_, _, h1.str, h2.str, by rw [← line_eq]; exact hz, str_post q⟩
    · cases ha
  case lst.lst a b =>
    have ha : (if a.length + b.length ≤ line then some (D.lst (a ++ b)) else none) = some d := ha
    split at ha
    · rename_i hz
      cases ha
      obtain ⟨p, vs, rfl, k1, k2⟩ := h1.lst gg
      obtain ⟨p2, vs2, rfl, k3, k4⟩ := h2.lst gg
      cases rx
      cases ry
      obtain ⟨its, r, pl, hl⟩ := I.list k1
      obtain ⟨its2, r2, pl2, hl2⟩ := I.list k3
      have l1 := r.length
      have l2 := r2.length
      have l3 := RVs.len k2
      have l4 := RVs.len k4
      have hz2 : a.length + b.length ≤ sizeLine := by rw [← line_eq]; exact hz
      refine cat_lists pl.isList pl2.isList (by omega) ?_
      refine ⟨.ref s.heap.objs.size, _, I.laid (t' := s.toks) (o := .lst (vs ++ vs2)) (fun _ _ z => Heap.get?_push_of_some _ z) (Nat.le_refl _) ?_, rfl, q.new _ _ (I.hok.fresh (Nat.le_refl _)) ⟨_, rfl, RVs.app k2 k4⟩⟩
      exact ⟨by rw [List.length_append]; omega, its ++ its2, 0, r.append r2, Heap.get?_push_size _ rfl⟩
    · cases ha
  case tup.tup a b =>
    have ha : (if a.length + b.length ≤ line then some (D.tup (a ++ b)) else none) = some d := ha
    split at ha
    · rename_i hz
      cases ha
      obtain ⟨p, vs, rfl, k1, k2⟩ := h1.tup gg
      obtain ⟨p2, vs2, rfl, k3, k4⟩ := h2.tup gg
      refine op_catA pins s σ H _ _ v u Q I rx ry ⟨p, p2, vs, vs2, rfl, rfl, k1, k3, ?_, fun z => ?_, fun z1 z2 => ?_, fun z1 z2 t ht => ?_⟩
      · rw [RVs.len k2, RVs.len k4, ← line_eq]
        exact hz
      · subst z
        have : a = [] := List.length_eq_zero_iff.mp (by rw [← RVs.len k2]; rfl)
        subst this
        exact q.old _ (fun _ => rfl) h2.tupRV
      · subst z2
        have : b = [] := List.length_eq_zero_iff.mp (by rw [← RVs.len k4]; rfl)
        subst this
        rw [List.append_nil] at q
        exact q.old _ (fun _ => rfl) h1.tupRV
      · exact q.new t _ ht ⟨_, rfl, RVs.app k2 k4⟩
    · cases ha

theorem r2_sub : OpR X (binaryOp .Sub) (rD2 X.K .sub true) := by
  intro pins s σ H x y v u Q I rx ry h
  obtain ⟨G, d1, d2, d, gg, h1, h2, ha, q⟩ := h
  cases d1 <;> try (cases ha; done)
  cases d2 <;> try (cases ha; done)
  cases ha
  exact op_sub pins s σ H x y v u Q I rx ry ⟨_, _, h1.int, h2.int, int_post q⟩
theorem r2_mul : OpR X (binaryOp .Mult) (rD2 X.K .mul true) := by
  intro pins s σ H x y v u Q I rx ry h
  obtain ⟨G, d1, d2, d, gg, h1, h2, ha, q⟩ := h
  cases d1 <;> try (cases ha; done)
  cases d2 <;> try (cases ha; done)
  rename_i i j
  obtain ⟨hc, rfl⟩ := ite_some (c := mulOk i j) (a := D.int (i * j)) ha
  refine op_mul pins s σ H x y v u Q I rx ry ⟨_, _, h1.int, h2.int, ?_, int_post q⟩
  unfold mulOk at hc
  simp only [Bool.or_eq_true, Bool.and_eq_true, decide_eq_true_eq] at hc
  exact hc
theorem r2_mod : OpR X (binaryOp .Mod) (rD2 X.K .mod true) := by
  intro pins s σ H x y v u Q I rx ry h
  obtain ⟨G, d1, d2, d, gg, h1, h2, ha, q⟩ := h
  cases d1 <;> try (cases ha; done)
  cases d2 <;> try (cases ha; done)
  rename_i i j
  have ha : (if j = 0 then none else some (D.int (i.fmod j))) = some d := ha
  split at ha
  · cases ha
  · rename_i hj
    cases ha
    exact op_modN pins s σ H x y v u Q I rx ry ⟨_, _, h1.int, h2.int, hj, int_post q⟩
theorem r2_fdiv : OpR X (binaryOp .FloorDiv) (rD2 X.K .fdiv true) := by
  intro pins s σ H x y v u Q I rx ry h
  obtain ⟨G, d1, d2, d, gg, h1, h2, ha, q⟩ := h
  cases d1 <;> try (cases ha; done)
  cases d2 <;> try (cases ha; done)
  rename_i i j
  obtain ⟨hc, rfl⟩ := ite_some (c := divOk j) (a := D.int (i.fdiv j)) ha
  refine op_fdivN pins s σ H x y v u Q I rx ry ⟨_, _, h1.int, h2.int, ?_, int_post q⟩
  unfold divOk at hc
  simp only [Bool.and_eq_true, bne_iff_ne, decide_eq_true_eq] at hc
  exact hc
theorem r2_pow : OpR X (binaryOp .Pow) (rD2 X.K .pow true) := by
  intro pins s σ H x y v u Q I rx ry h
  obtain ⟨G, d1, d2, d, gg, h1, h2, ha, q⟩ := h
  cases d1 <;> try (cases ha; done)
  cases d2 <;> try (cases ha; done)
  rename_i i j
  obtain ⟨hc, rfl⟩ := ite_some (c := powOk i j) (a := D.int (i ^ j.toNat)) ha
  refine op_pow pins s σ H x y v u Q I rx ry ⟨_, _, h1.int, h2.int, ?_, int_post q⟩
  unfold powOk at hc
  simp only [Bool.and_eq_true, decide_eq_true_eq] at hc
  exact ⟨hc.1.1, hc.1.2, hc.2⟩
theorem r1_neg : UnR X (unaryOp .USub) (rD1 X.K .neg true) := by
  intro pins s σ H x v Q I rx h
  obtain ⟨G, d1, d, gg, h1, ha, q⟩ := h
  cases d1 <;> try (cases ha; done)
  cases ha
  exact un_neg pins s σ H x v Q I rx ⟨_, h1.int, int_post q⟩
theorem r2_isN : OpR X (compareOp .Is) (fun x y H Q => y = .non ∧ rD1 X.K .isN true x H Q) := by
  intro pins s σ H x y v u Q I rx ry ⟨hy, h⟩
  obtain ⟨G, d1, d, gg, h1, ha, q⟩ := h
  cases ha
  refine op_isN pins s σ H x y v u Q I rx ry ⟨hy, ?_⟩
  have e : decide (x = .non) = d1.isNon := by
    cases d1 with
    | non => rw [h1.non]; rfl
    | bl b => rw [h1.bl]; rfl
    | int b => rw [h1.int]; rfl
    | str b => rw [h1.str]; rfl
    | tup b => obtain ⟨a, vs, rfl, _⟩ := h1.tup gg; rfl
    | lst b => obtain ⟨a, vs, rfl, _⟩ := h1.lst gg; rfl
    | dct b => obtain ⟨a, rfl, _⟩ := h1.dct gg; rfl
  rw [e]
  exact bl_post q
theorem r2_notN : OpR X (compareOp .IsNot) (fun x y H Q => y = .non ∧ rD1 X.K .notN true x H Q) := by
  intro pins s σ H x y v u Q I rx ry ⟨hy, h⟩
  obtain ⟨G, d1, d, gg, h1, ha, q⟩ := h
  cases ha
  refine op_notN pins s σ H x y v u Q I rx ry ⟨hy, ?_⟩
  have e : (!decide (x = .non)) = !d1.isNon := by
    cases d1 with
    | non => rw [h1.non]; rfl
    | bl b => rw [h1.bl]; rfl
    | int b => rw [h1.int]; rfl
    | str b => rw [h1.str]; rfl
    | tup b => obtain ⟨a, vs, rfl, _⟩ := h1.tup gg; rfl
    | lst b => obtain ⟨a, vs, rfl, _⟩ := h1.lst gg; rfl
    | dct b => obtain ⟨a, rfl, _⟩ := h1.dct gg; rfl
  rw [e]
  exact bl_post q

/-! ### truth -/
theorem tru_D {H G : Hp} {d : D} {x : V} {b : Bool} {K : PySem.W.Frag} (gg : Same G H) (h : VW K G H d x) (e : d.tru = some b) : TruV K x H b := by
  cases d with
  | non => rw [h.non]; cases e; rfl
  | bl c => rw [h.bl]; cases e; rfl
  | int c => rw [h.int]; cases e; rfl
  | str c =>
    rw [h.str]
    have e : (if c.length ≤ line then some (c.length != 0) else none) = some b := e
    split at e
    · rename_i hz
      cases e
      refine ⟨by rw [← line_eq]; exact hz, ?_⟩
      by_cases z : c.length = 0
      · simp [z]
      · have h1 : (c.length != 0) = true := by simpa using z
        have h2 : ((c.length : Int) != 0) = true := by simp; omega
        rw [h1, h2]
    · cases e
  | lst c =>
    obtain ⟨a, vs, rfl, k1, k2⟩ := h.lst gg
    cases e
    refine .inl ⟨vs, k1, ?_⟩
    have := RVs.len k2
    cases c <;> cases vs <;> simp_all
  | tup c =>
    obtain ⟨a, vs, rfl, k1, k2⟩ := h.tup gg
    cases e
    refine .inr (.inl ⟨vs, k1, ?_⟩)
    have := RVs.len k2
    cases c <;> cases vs <;> simp_all
  | dct c =>
    obtain ⟨a, rfl, k1, k2⟩ := h.dct gg
    cases e
    subst k1
    exact .inr (.inr ⟨[], k2, rfl⟩)

/-! ### subscripts, slices -/
theorem ixD_atI {α : Type} {xs : List α} {i : Int} : ixD xs i = atI xs i := by
  unfold ixD atI ixN
  by_cases h1 : 0 ≤ i
  · rw [if_pos h1, if_pos h1]
    by_cases h2 : i < xs.length
    · rw [if_pos h2, if_pos h2]; rfl
    · rw [if_neg h2, if_neg h2]; rfl
  · rw [if_neg h1, if_neg h1]
    by_cases h2 : -(xs.length : Int) ≤ i
    · rw [if_pos h2, if_pos h2]; rfl
    · rw [if_neg h2, if_neg h2]; rfl
theorem ixD_get {α β : Type} {xs : List α} {ys : List β} {i : Int} {x : α} (hl : ys.length = xs.length) (h : ixD xs i = some x) : ∃ j : Nat, xs[j]? = some x ∧ ∀ y, ys[j]? = some y → ixD ys i = some y := by
  unfold ixD at h ⊢
  rw [hl]
  by_cases h1 : 0 ≤ i
  · simp only [if_pos h1] at h ⊢
    by_cases h2 : i < xs.length
    · simp only [if_pos h2] at h ⊢
      exact ⟨_, h, fun y hy => hy⟩
    · simp only [if_neg h2] at h
      cases h
  · simp only [if_neg h1] at h ⊢
    by_cases h2 : -(xs.length : Int) ≤ i
    · simp only [if_pos h2] at h ⊢
      exact ⟨_, h, fun y hy => hy⟩
    · simp only [if_neg h2] at h
      cases h
theorem ix_D : IxR X (rD2 X.K .ix false) := by
  intro value slice pins s σ H x y v u Q I rx ry h hs
  obtain ⟨G, d1, d2, d, gg, h1, h2, ha, q⟩ := h
  cases d2 <;> cases d1 <;> try (cases ha; done)
  case int.str i z =>
    have ha : (if z.length ≤ line then (ixD z.cps.toList i).map chr1 else none) = some d := ha
    split at ha
    · rename_i hz
      cases e : ixD z.cps.toList i with
      | none => rw [e] at ha; cases ha
      | some c =>
        rw [e] at ha
        cases ha
        exact ix_str value slice pins s σ H x y v u Q I rx ry ⟨z, i, c, h1.str, h2.int, by rw [← line_eq]; exact hz, by rw [← ixD_atI]; exact e, str_post q⟩ hs
    · cases ha
  case int.lst i ds =>
    have ha : ixD ds i = some d := ha
    obtain ⟨a, vs, e, k1, k2⟩ := h1.lst gg
    obtain ⟨j, e1, e2⟩ := ixD_get (RVs.len k2) ha
    obtain ⟨w, e3, k3⟩ := RVs.get k2 e1
    exact ix_list value slice pins s σ H x y v u Q I rx ry ⟨a, vs, i, w, e, h2.int, k1, by rw [← ixD_atI]; exact e2 w e3, q.old w (fun z => nomatch z) k3⟩ hs
  case int.tup i ds =>
    have ha : ixD ds i = some d := ha
    obtain ⟨a, vs, e, k1, k2⟩ := h1.tup gg
    obtain ⟨j, e1, e2⟩ := ixD_get (RVs.len k2) ha
    obtain ⟨w, e3, k3⟩ := RVs.get k2 e1
    exact ix_tup value slice pins s σ H x y v u Q I rx ry ⟨a, vs, i, w, e, h2.int, k1, by rw [← ixD_atI]; exact e2 w e3, q.old w (fun z => nomatch z) k3⟩ hs

theorem slEnd_eq (n d : Nat) (o : Option Int) : slEnd n d o = HT.sIx n d o := by cases o <;> rfl
theorem cutD_V {α : Type} (xs : List α) (lo hi : Option Int) : cutD xs lo hi = (xs.drop (HT.sIx xs.length 0 lo)).take (HT.sIx xs.length xs.length hi - HT.sIx xs.length 0 lo) := by
  unfold cutD
  rw [slEnd_eq, slEnd_eq]
theorem RVs.cut {K : PySem.W.Frag} {G : Hp} {ds : List D} {vs : List V} (h : RVs K G ds vs) (lo hi : Option Int) : RVs K G (cutD ds lo hi) (cutV vs lo hi) := by
  rw [cutD_V]
  unfold cutV
  rw [RVs.len h]
  exact RVs.take _ (RVs.drop _ h)
def rSlD (K : PySem.W.Frag) : V → Option Int → Option Int → Hp → VK → Prop := fun x lo hi H Q => ∃ (G : Hp) (d1 d : D), Same G H ∧ VW K G H d1 x ∧ slD d1 lo hi = some d ∧ OpPost K G H true d Q
theorem sl_D : SlR X (rSlD X.K) := by
  intro pins s σ H x v vl vu lo hi sl Q I rx hs pl pu h
  obtain ⟨G, d1, d, gg, h1, ha, q⟩ := h
  cases d1 <;> try (cases ha; done)
  case str z =>
    have ha : (if z.length ≤ line then some (D.str (cutS z lo hi)) else none) = some d := ha
    split at ha
    · rename_i hz
      cases ha
      have e : cutS z lo hi = L2.cutS z lo hi := by
        unfold cutS L2.cutS
        rw [slEnd_eq, slEnd_eq]
      exact sl_str pins s σ H x v vl vu lo hi sl Q I rx hs pl pu ⟨z, h1.str, by rw [← line_eq]; exact hz, by rw [← e]; exact str_post q⟩
    · cases ha
  case lst ds =>
    cases ha
    obtain ⟨a, vs, e, k1, k2⟩ := h1.lst gg
    exact sl_list pins s σ H x v vl vu lo hi sl Q I rx hs pl pu ⟨a, vs, e, k1, fun p hp => q.new p _ hp ⟨_, rfl, k2.cut lo hi⟩⟩
  case tup ds =>
    cases ha
    obtain ⟨a, vs, e, k1, k2⟩ := h1.tup gg
    refine sl_tupA pins s σ H x v vl vu lo hi sl Q I rx hs pl pu ⟨a, vs, e, k1, fun hw => ?_, fun _ p hp => q.new p _ hp ⟨_, rfl, k2.cut lo hi⟩⟩
    have e2 : cutD ds lo hi = ds := by
      rw [cutD_V, ← RVs.len k2, hw.1, hw.2, List.drop_zero, Nat.sub_zero, RVs.len k2, List.take_length]
    rw [e2] at q
    have k := h1.tupRV
    rw [e] at k
    exact q.old _ (fun _ => rfl) k

/-! ### built-ins -/
theorem sq_ty {K : PySem.W.Frag} {H : Hp} {a : Addr} {xs : List V} (h : SqL K H a xs) : TyX K H (.ref a) (.type "list") := by
  rcases h with (h | ⟨o, h⟩) | ⟨o, its, n, h1, h2, _⟩
  · exact .base (.lst h)
  · exact .base (.frz h)
  · exact .kList h1 h2
theorem sqt_ty {K : PySem.W.Frag} {H : Hp} {a : Addr} {xs : List V} (h : SqT K H a xs) : TyX K H (.ref a) (.type "tuple") := by
  rcases h with (h | ⟨o, h⟩) | ⟨o, its, n, h1, h2, _⟩
  · exact .base (.tup h)
  · exact .fTuple h
  · exact .kTuple h1 h2
theorem kit_all : ∀ (k : DK) (u : Ty), kitB k.name u.name = some (tyOk u k) := by
  intro k u
  cases k <;> cases u <;> decide +kernel
theorem ty_D {K : PySem.W.Frag} {G H : Hp} {d : D} {x : V} (gg : Same G H) (h : VW K G H d x) : TyX K H x (.type d.dk.name) := by
  cases d with
  | non => rw [h.non]; exact .base .non
  | bl b => rw [h.bl]; exact .base (.bl b)
  | int b => rw [h.int]; exact .base (.int b)
  | str b => rw [h.str]; exact .base (.str b)
  | lst b => obtain ⟨a, vs, rfl, k, _⟩ := h.lst gg; exact sq_ty k
  | tup b => obtain ⟨a, vs, rfl, k, _⟩ := h.tup gg; exact sqt_ty k
  | dct b => obtain ⟨a, rfl, _, k⟩ := h.dct gg; exact .base (.dK k)
def rIsiD (K : PySem.W.Frag) (t : Ty) : List V → Hp → VK → Prop := fun xs H Q => ∃ x, xs = [x, .ty t.name] ∧ rD1 K (.isi t) true x H Q
theorem cr_isi (t : Ty) : CallR X (.builtin "isinstance") (rIsiD X.K t) := by
  intro pins s σ H xs us Q I r h
  obtain ⟨x, rfl, G, d1, d, gg, h1, ha, q⟩ := h
  cases ha
  exact call_isi pins s σ H _ us Q I r ⟨x, .ty t.name, .type d1.dk.name, .type t.name, _, rfl, .ty _, ty_D gg h1, kit_ty (kit_all d1.dk t), bl_post q⟩
theorem one_arg {K : PySem.W.Frag} {G H : Hp} {ds : List D} {d : D} {xs : List V} {o : Op} (ho : ∀ ds, ap o ds = match ds with
    | [a] => o.ap1 shownD a
    | [a, b] => o.ap2 a b
    | _ => none) (h2 : ∀ a b, o.ap2 a b = none) (h1 : VWs K G H ds xs) (ha : ap o ds = some d) : ∃ d1 x, ds = [d1] ∧ xs = [x] ∧ VW K G H d1 x ∧ o.ap1 shownD d1 = some d := by
  rw [ho] at ha
  match ds, h1, ha with
  | [], _, ha => cases ha
  | [a], h1, ha =>
    obtain ⟨x, e, k⟩ := VWs.one h1
    exact ⟨a, x, rfl, e, k, ha⟩
  | [a, b], _, ha =>
    have ha : o.ap2 a b = some d := ha
    rw [h2 a b] at ha
    cases ha
  | _ :: _ :: _ :: _, _, ha => cases ha
theorem two_arg {K : PySem.W.Frag} {G H : Hp} {ds : List D} {d : D} {xs : List V} {o : Op} (ho : ∀ ds, ap o ds = match ds with
    | [a] => o.ap1 shownD a
    | [a, b] => o.ap2 a b
    | _ => none) (h2 : ∀ a, o.ap1 shownD a = none) (h1 : VWs K G H ds xs) (ha : ap o ds = some d) : ∃ d1 d2 x y, ds = [d1, d2] ∧ xs = [x, y] ∧ VW K G H d1 x ∧ VW K G H d2 y ∧ o.ap2 d1 d2 = some d := by
  rw [ho] at ha
  match ds, h1, ha with
  | [], _, ha => cases ha
  | [a, b], h1, ha =>
    obtain ⟨x, y, e, k, k'⟩ := VWs.two h1
    exact ⟨a, b, x, y, rfl, e, k, k', ha⟩
  | [a], _, ha =>
    have ha : o.ap1 shownD a = some d := ha
    rw [h2 a] at ha
    cases ha
  | _ :: _ :: _ :: _, _, ha => cases ha
theorem cr_len : CallR X (.builtin "len") (rDn X.K .len true) := by
  intro pins s σ H xs us Q I r h
  obtain ⟨G, ds, d, gg, h1, ha, q⟩ := h
  obtain ⟨d1, x, rfl, rfl, k1, hb⟩ := one_arg (o := .len) (fun _ => rfl) (fun _ _ => rfl) h1 ha
  clear ha
  have ha := hb
  clear hb
  cases d1 with
  | str z =>
    have ha : (if z.length ≤ line then some (D.int z.length) else none) = some d := ha
    split at ha
    · rename_i hz
      cases ha
      rw [k1.str] at r
      refine call_len_str pins s σ H _ us Q I r ⟨z, rfl, by rw [← line_eq]; exact hz, int_post q⟩
    · cases ha
  | lst ds =>
    cases ha
    obtain ⟨a, vs, rfl, k, k2⟩ := k1.lst gg
    exact call_len_seq pins s σ H _ us Q I r ⟨a, vs, rfl, .inl k, by rw [RVs.len k2]; exact int_post q⟩
  | tup ds =>
    cases ha
    obtain ⟨a, vs, rfl, k, k2⟩ := k1.tup gg
    exact call_len_seq pins s σ H _ us Q I r ⟨a, vs, rfl, .inr k, by rw [RVs.len k2]; exact int_post q⟩
  | dct ds =>
    cases ha
    obtain ⟨a, rfl, rfl, k⟩ := k1.dct gg
    exact call_lenD pins s σ H _ us Q I r ⟨a, [], rfl, k, int_post q⟩
  | _ => cases ha
theorem bools_of {K : PySem.W.Frag} {G : Hp} : ∀ {ds : List D} {vs : List V} {bs : List Bool}, RVs K G ds vs → D.bools ds = some bs → vs = bs.map V.bl
  | [], _, _, h, e => by
    cases (show _ = [] from h)
    cases e
    rfl
  | d :: ds, _, bs, ⟨v, r, z, h1, h2⟩, e => by
    subst z
    cases d with
    | bl b =>
      have e : (D.bools ds).map (b :: ·) = some bs := e
      cases k : D.bools ds with
      | none => rw [k] at e; cases e
      | some cs =>
        rw [k] at e
        cases e
        rw [bools_of h2 k, show v = V.bl b from h1]
        rfl
    | _ => cases e
theorem cr_all (g : XG X) : CallR X (.builtin "all") (rDn X.K .all true) := by
  intro pins s σ H xs us Q I r h
  obtain ⟨G, ds, d, gg, h1, ha, q⟩ := h
  obtain ⟨d1, x, rfl, rfl, k1, hb⟩ := one_arg (o := .all) (fun _ => rfl) (fun _ _ => rfl) h1 ha
  clear ha
  have ha := hb
  clear hb
  cases d1 <;> try (cases ha; done)
  case lst es =>
  have ha : ((D.bools es).map fun bs => D.bl (bs.all id)) = some d := ha
  cases k : D.bools es with
  | none => rw [k] at ha; cases ha
  | some bs =>
    rw [k] at ha
    cases ha
    obtain ⟨a, vs, rfl, k3, k2⟩ := k1.lst gg
    exact L2.cr_all g.calm pins s σ H _ us Q I r ⟨a, bs, rfl, by rw [← bools_of k2 k]; exact k3, bl_post q⟩
theorem cr_any (g : XG X) : CallR X (.builtin "any") (rDn X.K .any true) := by
  intro pins s σ H xs us Q I r h
  obtain ⟨G, ds, d, gg, h1, ha, q⟩ := h
  obtain ⟨d1, x, rfl, rfl, k1, hb⟩ := one_arg (o := .any) (fun _ => rfl) (fun _ _ => rfl) h1 ha
  clear ha
  have ha := hb
  clear hb
  cases d1 <;> try (cases ha; done)
  case lst es =>
  have ha : ((D.bools es).map fun bs => D.bl (bs.any id)) = some d := ha
  cases k : D.bools es with
  | none => rw [k] at ha; cases ha
  | some bs =>
    rw [k] at ha
    cases ha
    obtain ⟨a, vs, rfl, k3, k2⟩ := k1.lst gg
    exact L2.cr_any g.calm pins s σ H _ us Q I r ⟨a, bs, rfl, by rw [← bools_of k2 k]; exact k3, bl_post q⟩
theorem cr_max2 (g : XG X) : CallR X (.builtin "max") (rDn X.K .max2 true) := by
  intro pins s σ H xs us Q I r h
  obtain ⟨G, ds, d, gg, h1, ha, q⟩ := h
  obtain ⟨d1, d2, x, y, rfl, rfl, k1, k2, hb⟩ := two_arg (o := .max2) (fun _ => rfl) (fun _ => rfl) h1 ha
  clear ha
  have ha := hb
  clear hb
  cases d1 <;> cases d2 <;> try (cases ha; done)
  case int.int i j =>
  cases ha
  exact call_max2 g.calm pins s σ H _ us Q I r ⟨i, j, by rw [k1.int, k2.int], int_post q⟩
theorem cr_min2 (g : XG X) : CallR X (.builtin "min") (rDn X.K .min2 true) := by
  intro pins s σ H xs us Q I r h
  obtain ⟨G, ds, d, gg, h1, ha, q⟩ := h
  obtain ⟨d1, d2, x, y, rfl, rfl, k1, k2, hb⟩ := two_arg (o := .min2) (fun _ => rfl) (fun _ => rfl) h1 ha
  clear ha
  have ha := hb
  clear hb
  cases d1 <;> cases d2 <;> try (cases ha; done)
  case int.int i j =>
  cases ha
  exact call_min2 g.calm pins s σ H _ us Q I r ⟨i, j, by rw [k1.int, k2.int], int_post q⟩
theorem cr_int : CallR X (.type "int") (rDn X.K .toInt true) := by
  intro pins s σ H xs us Q I r h
  obtain ⟨G, ds, d, gg, h1, ha, q⟩ := h
  obtain ⟨d1, x, rfl, rfl, k1, hb⟩ := one_arg (o := .toInt) (fun _ => rfl) (fun _ _ => rfl) h1 ha
  clear ha
  have ha := hb
  clear hb
  cases d1 <;> try (cases ha; done)
  case int i =>
    cases ha
    exact call_int1 pins s σ H _ us Q I r (.inl ⟨i, by rw [k1.int], int_post q⟩)
  case bl i =>
    cases ha
    exact call_int1 pins s σ H _ us Q I r (.inr ⟨i, by rw [k1.bl], int_post q⟩)
theorem cr_list : CallR X (.type "list") (rDn X.K .toList true) := by
  intro pins s σ H xs us Q I r h
  obtain ⟨G, ds, d, gg, h1, ha, q⟩ := h
  obtain ⟨d1, x, rfl, rfl, k1, hb⟩ := one_arg (o := .toList) (fun _ => rfl) (fun _ _ => rfl) h1 ha
  clear ha
  have ha := hb
  clear hb
  cases d1 <;> try (cases ha; done)
  case lst es =>
    cases ha
    obtain ⟨a, vs, rfl, k3, k2⟩ := k1.lst gg
    exact call_list_of pins s σ H _ us Q I r ⟨a, vs, rfl, .inl k3, fun p hp => q.new p _ hp ⟨_, rfl, k2⟩⟩
  case tup es =>
    cases ha
    obtain ⟨a, vs, rfl, k3, k2⟩ := k1.tup gg
    exact call_list_of pins s σ H _ us Q I r ⟨a, vs, rfl, .inr k3, fun p hp => q.new p _ hp ⟨_, rfl, k2⟩⟩
theorem cr_tuple : CallR X (.type "tuple") (rDn X.K .toTuple true) := by
  intro pins s σ H xs us Q I r h
  obtain ⟨G, ds, d, gg, h1, ha, q⟩ := h
  obtain ⟨d1, x, rfl, rfl, k1, hb⟩ := one_arg (o := .toTuple) (fun _ => rfl) (fun _ _ => rfl) h1 ha
  clear ha
  have ha := hb
  clear hb
  cases d1 <;> try (cases ha; done)
  case lst es =>
    cases ha
    obtain ⟨a, vs, rfl, k3, k2⟩ := k1.lst gg
    exact call_tuple_of pins s σ H _ us Q I r ⟨a, vs, rfl, .inl ⟨k3, fun p hp => q.new p _ hp ⟨_, rfl, k2⟩⟩⟩
  case tup es =>
    cases ha
    have k := k1.tupRV
    obtain ⟨a, vs, rfl, k3, k2⟩ := k1.tup gg
    exact call_tuple_of pins s σ H _ us Q I r ⟨a, vs, rfl, .inr ⟨k3, q.old _ (fun _ => rfl) k⟩⟩

/-! ### repr -/
mutual
theorem flat_hasDict : ∀ d : D, D.flat d = true → d.toP.hasDict = false
  | .non, _ => rfl
  | .bl _, _ => rfl
  | .int _, _ => rfl
  | .str _, _ => rfl
  | .tup xs, f => flats_hasDict xs f
  | .lst xs, f => flats_hasDict xs f
  | .dct _, f => nomatch f
theorem flats_hasDict : ∀ ds : List D, D.flat.flats ds = true → PyData.hasDictAll (D.toP.toPs ds) = false
  | [], _ => rfl
  | d :: ds, f => by
    have f' : (D.flat d && D.flat.flats ds) = true := f
    simp only [Bool.and_eq_true] at f'
    show (PyData.hasDict d.toP || PyData.hasDictAll (D.toP.toPs ds)) = false
    rw [flat_hasDict d f'.1, flats_hasDict ds f'.2]
    rfl
end
mutual
theorem RV.reads {pins : List (Addr × Obj)} {σ : L2.St} {H : Hp} {s : Shared} (I : L2.Inv X pins σ H s) : ∀ (d : D) (v : V) (u : Value), RV X.K H d v → RelV v u → ∃ as, Reads s.heap u d.toP as ∧ (D.noL d = true → sysModules ∉ as)
  | .non, _, _, h, r => by
    cases (show _ = V.non from h)
    cases r
    exact ⟨_, Reads.none, fun _ z => nomatch z⟩
  | .bl b, _, _, h, r => by
    cases (show _ = V.bl b from h)
    cases r
    exact ⟨_, Reads.bool b, fun _ z => nomatch z⟩
  | .int i, _, _, h, r => by
    cases (show _ = V.int i from h)
    obtain ⟨t, rfl⟩ := r
    exact ⟨_, Reads.int i t, fun _ z => nomatch z⟩
  | .str x, _, _, h, r => by
    cases (show _ = V.str x from h)
    obtain ⟨t, rfl⟩ := r
    exact ⟨_, Reads.str x t, fun _ z => nomatch z⟩
  | .lst ds, _, _, ⟨a, vs, z, h1, h2⟩, r => by
    subst z
    cases r
    obtain ⟨its, rv, ⟨o, n, ho, hc, _, hd⟩, _⟩ := I.list h1
    obtain ⟨as, hr, _⟩ := RVs.reads I ds vs its h2 rv
    exact ⟨_, Reads.list ho hc hd hr, fun z => nomatch z⟩
  | .tup ds, _, _, ⟨a, vs, z, h1, h2⟩, r => by
    subst z
    cases r
    obtain ⟨its, rv, ⟨o, ho, hc, n, hd⟩, _⟩ := I.tuple h1
    obtain ⟨as, hr, hn⟩ := RVs.reads I ds vs its h2 rv
    exact ⟨_, Reads.tuple ho hc hd hr, hn⟩
  | .dct kvs, _, _, ⟨a, z, z2, h1⟩, r => by
    subst z z2
    cases r
    obtain ⟨_, hs, vs, kv, o, es, ep, ho, hx, hd, _, hp, _⟩ := I.hok a _ h1
    cases kv
    have e1 : es.toList = [] := by
      cases hq : es.toList with
      | nil => rfl
      | cons x xs => rw [hq] at hp; cases hp
    exact ⟨_, Reads.dict (kvs := []) ho hx.1 hd (by rw [e1]; exact .nil) (by rw [e1]; exact .nil), fun _ z => by
      have z : sysModules = a := by simpa using z
      rw [← z] at hs
      simp at hs⟩
theorem RVs.reads {pins : List (Addr × Obj)} {σ : L2.St} {H : Hp} {s : Shared} (I : L2.Inv X pins σ H s) : ∀ (ds : List D) (vs : List V) (us : List Value), RVs X.K H ds vs → Vals vs us → ∃ as, ReadsAll s.heap us (D.toP.toPs ds) as ∧ (D.noL.noLs ds = true → sysModules ∉ as)
  | [], _, _, h, r => by
    cases (show _ = [] from h)
    cases r
    exact ⟨_, ReadsAll.nil, fun _ z => nomatch z⟩
  | d :: ds, _, _, ⟨v, vr, z, h1, h2⟩, r => by
    subst z
    cases r with
    | cons r1 r2 =>
      obtain ⟨as, q1, n1⟩ := RV.reads I d v _ h1 r1
      obtain ⟨bs, q2, n2⟩ := RVs.reads I ds vr _ h2 r2
      refine ⟨_, ReadsAll.cons q1 q2, fun f => ?_⟩
      have f' : (D.noL d && D.noL.noLs ds) = true := f
      simp only [Bool.and_eq_true] at f'
      rw [List.mem_append]
      rintro (z | z)
      · exact n1 f'.1 z
      · exact n2 f'.2 z
end
theorem cr_repr (g : XG X) : CallR X (.builtin "repr") (rDn X.K .repr true) := by
  intro pins s σ H xs us Q I r h
  obtain ⟨G, ds, d, gg, h1, ha, q⟩ := h
  obtain ⟨d1, x, rfl, rfl, k1, hb⟩ := one_arg (o := .repr) (fun _ => rfl) (fun _ _ => rfl) h1 ha
  clear ha
  have ha : (shownD d1).map D.str = some d := hb
  unfold shownD at ha
  split at ha
  · rename_i hc
    cases ha
    simp only [Bool.and_eq_true, Bool.or_eq_true, decide_eq_true_eq] at hc
    obtain ⟨⟨⟨c1, c2⟩, c3⟩, c4⟩ := hc
    rw [line_eq] at c4
    have hu := g.units
    obtain ⟨u, rfl, ru⟩ := vals1 r
    have hr := k1.rv gg
    obtain ⟨as, R, hn⟩ := RV.reads I d1 x u hr ru
    have hsm : d1.toP.hasDict = true → sysModules ∉ as := fun z => by
      rcases c1 with c1 | c1
      · rw [flat_hasDict d1 c1] at z
        cases z
      · exact hn c1
    have fin : ∀ (h' : Heap) (t tk : Tok), (∀ b o, s.heap.get? b = some o → h'.get? b = some o) → EP X pins σ Q (.str d1.toP.shown t) { s with heap := h', toks := tk } := fun h' t tk kp =>
      ⟨.str d1.toP.shown, H, I.kept kp, ⟨t, rfl⟩, str_post q⟩
    cases d1 with
    | non =>
      cases (show x = V.non from hr)
      cases ru
      exact PySem.P.repr_of_none (fin s.heap _ _ fun _ _ e => e)
    | bl b =>
      cases (show x = V.bl b from hr)
      cases ru
      exact PySem.P.repr_of_bool (fin s.heap _ _ fun _ _ e => e)
    | int i =>
      cases (show x = V.int i from hr)
      obtain ⟨t, rfl⟩ := ru
      exact PySem.P.repr_of_int (of_decide_eq_true c2) (fin s.heap _ _ fun _ _ e => e)
    | str z =>
      cases (show x = V.str z from hr)
      obtain ⟨t, rfl⟩ := ru
      exact PySem.P.repr_of_str (fin s.heap _ _ fun _ _ e => e) c4
    | tup zs =>
      obtain ⟨a, vs, rfl, _⟩ := hr
      cases ru
      exact repr_of_reads' R c2 hsm g.guards (by omega) (fun _ _ e => e) fin c4
    | lst zs =>
      obtain ⟨a, vs, rfl, _⟩ := hr
      cases ru
      exact repr_of_reads' R c2 hsm g.guards (by omega) (fun _ _ e => e) fin c4
    | dct zs =>
      obtain ⟨a, rfl, _⟩ := hr
      cases ru
      exact repr_of_reads' R c2 hsm g.guards (by omega) (fun _ _ e => e) fin c4
  · cases ha
end
end VL

/-! VL5: readings of the small language; the checker of expressions; what it is worth. -/
namespace VL
open PySem PySem.Spec L2

/-- what stands fast for a body -/
structure Cfg where
  K : PySem.W.Frag
  io : List (Nat × Addr)
  W : WX
  P : Prog
  cf : Nat → List D → VL.CR
  C : Nat → Addr
  fld : Nat → Option Str
/-- an exception's fields in its own dict -/
def XR (c : Cfg) (n : Nat) (fs : List D) (dx : Option Addr) (G H : Hp) : Prop :=
  (fs = [] ∧ dx = none) ∨ ∃ (d : D) (x : Addr) (v : V) (f : Str), fs = [d] ∧ dx = some x ∧ c.fld n = some f ∧ H x = some (.xd [(f, v)]) ∧ RV c.K G d v
def Res {α : Type} (c : Cfg) (Fr G : Hp) (σ : L2.St) (x : Out α) (ok : α → Env → Prop) : Prop :=
  match x with
  | .ok a r => ok a r
  | .err n fs r => ∀ (H' G' : Hp) (dx : Option Addr), SR c.K c.io Fr G' σ H' r → Same G G' → XR c n fs dx G' H' → c.W (.ref (c.C n)) dx σ H'
  | .stk => False
abbrev evl (c : Cfg) (m : ME) (r : Env) : Out (List D) := m.ev shownD c.P c.cf r
/-- arguments: a name stands for its slot, any other value is frozen -/
def APs (K : PySem.W.Frag) (G : Hp) (σ : L2.St) : ME → List D → List V → Prop
  | .cons (.nm j) m, _ :: ds, v :: vs => σ[j]? = some (some v) ∧ APs K G σ m ds vs
  | .cons _ m, d :: ds, v :: vs => RV K G d v ∧ APs K G σ m ds vs
  | .nil, ds, vs => ds = [] ∧ vs = []
  | _, _, _ => False
def isNm : ME → Bool
  | .nm _ => true
  | _ => false
/-- a value that is nobody else's -/
def FV (K : PySem.W.Frag) (Fr G H : Hp) (σ : L2.St) (r : Env) (d : D) (v : V) : Prop :=
  if d.mutb = true then ∃ a, v = .ref a ∧ OV K G H d a ∧ G a = none ∧ Fr a = none ∧ ∀ j, ¬ ownAt σ r j a else RV K G d v
def SV (K : PySem.W.Frag) (fr : Bool) (Fr G H : Hp) (σ : L2.St) (r : Env) (d : D) (v : V) : Prop := if fr = true then FV K Fr G H σ r d v else RV K G d v

def tP (c : Cfg) (m : ME) : TE := fun σ H Q => ∃ (Fr G : Hp) (r : Env), SR c.K c.io Fr G σ H r ∧ Res c Fr G σ (evl c m r) fun ds r' => ∃ d, ds = [d] ∧ ∀ (v : V) (H' G' : Hp), SR c.K c.io Fr G' σ H' r' → Same G G' → APs c.K G' σ (.cons m .nil) [d] [v] → Q v H'
def tS (c : Cfg) (fr : Bool) (m : ME) : TE := fun σ H Q => ∃ (Fr G : Hp) (r : Env), SR c.K c.io Fr G σ H r ∧ Res c Fr G σ (evl c m r) fun ds r' => ∃ d, ds = [d] ∧ ∀ (v : V) (H' G' : Hp), SR c.K c.io Fr G' σ H' r' → Same G G' → SV c.K fr Fr G' H' σ r' d v → Q v H'
def tA (c : Cfg) (m : ME) : TA := fun σ H Q => ∃ (Fr G : Hp) (r : Env), SR c.K c.io Fr G σ H r ∧ Res c Fr G σ (evl c m r) fun ds r' => ∀ (vs : List V) (H' G' : Hp), SR c.K c.io Fr G' σ H' r' → Same G G' → APs c.K G' σ m ds vs → Q vs H'
def tT (c : Cfg) (m : ME) : TT := fun σ H Q => ∃ (Fr G : Hp) (r : Env), SR c.K c.io Fr G σ H r ∧ Res c Fr G σ (evC shownD c.P c.cf m r) fun b r' => ∀ (H' G' : Hp), SR c.K c.io Fr G' σ H' r' → Same G G' → Q b H'

section
variable {c : Cfg} {Fr G G' H H' : Hp} {σ : L2.St} {r : Env}
theorem Res.bind {α β : Type} {x : Out α} {f : α → Env → Out β} {ok : β → Env → Prop} (h : Res c Fr G σ (x.bind f) ok) : Res c Fr G σ x fun a r' => Res c Fr G σ (f a r') ok := by
  cases x with
  | ok a r => exact h
  | err n fs r => exact h
  | stk => exact h
theorem Res.mono {α : Type} {x : Out α} {ok ok' : α → Env → Prop} (h : Res c Fr G σ x ok) (k : ∀ a r, ok a r → ok' a r) : Res c Fr G σ x ok' := by
  cases x with
  | ok a r => exact k a r h
  | err n fs r => exact h
  | stk => exact h
theorem Res.grow {α : Type} {x : Out α} {ok : α → Env → Prop} (h : Res c Fr G σ x ok) (g : Same G G') : Res c Fr G' σ x ok := by
  cases x with
  | ok a r => exact h
  | err n fs r => exact fun H' G1 dx s q xr => h H' G1 dx s (g.trans q) xr
  | stk => exact h
theorem SV.frz (S : SR c.K c.io Fr G σ H r) {d : D} {v : V} {fr : Bool} (h : SV c.K fr Fr G H σ r d v) : ∃ G', Same G G' ∧ SR c.K c.io Fr G' σ H r ∧ RV c.K G' d v := by
  unfold SV at h
  split at h
  · unfold FV at h
    split at h
    · obtain ⟨a, rfl, h1, h2, h3, h4⟩ := h
      obtain ⟨o, ho⟩ := h1.there
      exact ⟨_, same_upd h2, S.freeze ho h2 h3 h4, h1.rv ho (same_upd h2) upd_same⟩
    · exact ⟨G, Same.refl _, S, h⟩
  · exact ⟨G, Same.refl _, S, h⟩
theorem peI {X : Cx} {e : Expr} {t t' : TE} (h : PE X e t) (k : ∀ σ H Q, t' σ H Q → t σ H Q) : PE X e t' := ⟨fun pins s σ H Q I q => h.run pins s σ H Q I (k σ H Q q)⟩
theorem ptI {X : Cx} {e : Expr} {t t' : TT} (h : PT X e t) (k : ∀ σ H Q, t' σ H Q → t σ H Q) : PT X e t' := ⟨fun pins s σ H Q I q => h.run pins s σ H Q I (k σ H Q q)⟩
theorem paI {X : Cx} {e : List Expr} {t t' : TA} (h : PA X e t) (k : ∀ σ H Q, t' σ H Q → t σ H Q) : PA X e t' := ⟨fun pos pins s σ H Q I q => h.run pos pins s σ H Q I (k σ H Q q)⟩
theorem psI {X : Cx} {e : Stmt} {t t' : TS} (h : PS X e t) (k : ∀ D σ H, t' D σ H → t D σ H) : PS X e t' := ⟨fun pins s σ H Q I q => h.run pins s σ H Q I (k Q σ H q)⟩
theorem pssI {X : Cx} {e : List Stmt} {t t' : TS} (h : PSs X e t) (k : ∀ D σ H, t' D σ H → t D σ H) : PSs X e t' := ⟨fun pins s σ H Q I q => h.run pins s σ H Q I (k Q σ H q)⟩
theorem APs.one_rv {m : ME} (hm : isNm m = false) {d : D} {v : V} (h : RV c.K G d v) : APs c.K G σ (.cons m .nil) [d] [v] := by
  cases m <;> first | exact ⟨h, rfl, rfl⟩ | exact (Bool.noConfusion hm)
theorem APs.rv {m : ME} (hm : isNm m = false) {d : D} {v : V} (h : APs c.K G σ (.cons m .nil) [d] [v]) : RV c.K G d v := by
  cases m <;> first | exact h.1 | exact (Bool.noConfusion hm)
/-- the strongest reading gives the others -/
theorem pe_weak {X : Cx} {e : Expr} {m : ME} {fr : Bool} (h : PE X e (tS c fr m)) : PE X e (tS c false m) := peI h fun σ H Q q => by
  obtain ⟨Fr, G, r, S, q⟩ := q
  refine ⟨Fr, G, r, S, q.mono fun ds r' ⟨d, e, k⟩ => ⟨d, e, fun v H' G' S' g s => ?_⟩⟩
  obtain ⟨G2, g2, S2, rv⟩ := SV.frz S' s
  exact k v H' G2 S2 (g.trans g2) rv
theorem pe_peek {X : Cx} {e : Expr} {m : ME} {fr : Bool} (hm : isNm m = false) (h : PE X e (tS c fr m)) : PE X e (tP c m) := peI (pe_weak h) fun σ H Q q => by
  obtain ⟨Fr, G, r, S, q⟩ := q
  exact ⟨Fr, G, r, S, q.mono fun ds r' ⟨d, e, k⟩ => ⟨d, e, fun v H' G' S' g s => k v H' G' S' g (APs.one_rv hm s)⟩⟩
theorem APs.mono (g : Same G G') : ∀ {m : ME} {ds : List D} {vs : List V}, APs c.K G σ m ds vs → APs c.K G' σ m ds vs := by
  intro m
  induction m with
  | cons a m _ ih =>
    intro ds vs h
    cases ds with
    | nil => cases a <;> exact h.elim
    | cons d ds =>
      cases vs with
      | nil => cases a <;> exact h.elim
      | cons v vs => cases a <;> first | exact ⟨h.1, ih h.2⟩ | exact ⟨h.1.mono g, ih h.2⟩
  | nil => intro ds vs h; exact h
  | _ => intro ds vs h; cases ds <;> cases vs <;> exact h.elim
theorem peek_vw (S : SR c.K c.io Fr G σ H r) {j : Nat} {d : D} {v : V} (hp : peek r j = some d) (hv : σ[j]? = some (some v)) : VW c.K G H d v := by
  unfold peek at hp
  split at hp
  · rename_i e
    cases hp
    obtain ⟨w, e1, h⟩ := S.s _ _ e
    rw [hv] at e1
    cases e1
    exact .inl h
  · rename_i e
    cases hp
    obtain ⟨w, e1, _, _, h⟩ := S.s _ _ e
    rw [hv] at e1
    cases e1
    exact .inr ⟨_, rfl, h⟩
  · rename_i e
    cases hp
    obtain ⟨w, e1, _, _, h⟩ := S.s _ _ e
    rw [hv] at e1
    cases e1
    exact .inr ⟨_, rfl, h⟩
  · cases hp
theorem APs.fresh (S : SR c.K c.io Fr G σ H r) : ∀ {m : ME} {ds ds' : List D} {vs : List V}, APs c.K G σ m ds vs → m.fresh ds r = some ds' → VWs c.K G H ds' vs := by
  intro m
  induction m with
  | cons a m _ ih =>
    intro ds ds' vs h k
    cases ds with
    | nil => cases a <;> exact h.elim
    | cons d ds =>
      cases vs with
      | nil => cases a <;> exact h.elim
      | cons v vs =>
        by_cases hn : ∃ j, a = .nm j
        · obtain ⟨j, rfl⟩ := hn
          have k : (match peek r j, m.fresh ds r with
            | some d, some l => some (d :: l)
            | _, _ => none) = some ds' := k
          split at k
          · rename_i d1 l e1 e2
            cases k
            exact ⟨v, vs, rfl, peek_vw S e1 h.1, ih h.2 e2⟩
          · cases k
        · have h1 : RV c.K G d v ∧ APs c.K G σ m ds vs := by
            cases a <;> first | exact h | exact absurd ⟨_, rfl⟩ hn
          have k1 : (m.fresh ds r).map (d :: ·) = some ds' := by
            cases a <;> first | exact k | exact absurd ⟨_, rfl⟩ hn
          cases e : m.fresh ds r with
          | none => rw [e] at k1; cases k1
          | some l =>
            rw [e] at k1
            cases k1
            exact ⟨v, vs, rfl, .inl h1.1, ih h1.2 e⟩
  | nil =>
    intro ds ds' vs h k
    obtain ⟨rfl, rfl⟩ := h
    cases k
    rfl
  | _ => intro ds ds' vs h; cases ds <;> cases vs <;> exact h.elim

/-! ### one value each -/
def ME.one : ME → Bool
  | .nil => false
  | .cons _ _ => false
  | .and_ _ b => ME.one b
  | .or_ _ b => ME.one b
  | .ite _ a b => ME.one a && ME.one b
  | _ => true
theorem bind_ok {α β : Type} {x : Out α} {f : α → Env → Out β} {b : β} {r' : Env} (h : x.bind f = .ok b r') : ∃ a r1, x = .ok a r1 ∧ f a r1 = .ok b r' := by
  cases x with
  | ok a r => exact ⟨a, r, rfl, h⟩
  | err n fs r => cases h
  | stk => cases h
theorem ME.one_ev : ∀ {m : ME} {r r' : Env} {xs : List D}, m.one = true → evl c m r = .ok xs r' → ∃ d, xs = [d] := by
  intro m
  induction m with
  | kst d => intro r r' xs _ h; cases h; exact ⟨_, rfl⟩
  | glb i =>
    intro r r' xs _ h
    have h : (match c.P.gt[i]? with
      | some x => Out.ok [x.2] r
      | none => .stk) = .ok xs r' := h
    split at h <;> cases h
    exact ⟨_, rfl⟩
  | nm j =>
    intro r r' xs _ h
    have h : (match peek r j with
      | some d => Out.ok [d] r
      | none => .stk) = .ok xs r' := h
    split at h <;> cases h
    exact ⟨_, rfl⟩
  | cap j =>
    intro r r' xs _ h
    have h : (match capE r j with
      | some (d, r') => Out.ok [d] r'
      | none => .stk) = .ok xs r' := h
    split at h <;> cases h
    exact ⟨_, rfl⟩
  | nil => intro r r' xs h; cases h
  | cons a m => intro r r' xs h; cases h
  | op o a =>
    intro r r' xs _ h
    obtain ⟨x, r1, _, h⟩ := bind_ok h
    split at h
    · split at h <;> cases h
      exact ⟨_, rfl⟩
    · cases h
  | chain o1 o2 ab k =>
    intro r r' xs _ h
    obtain ⟨x, r1, _, h⟩ := bind_ok h
    split at h
    · split at h
      · obtain ⟨z, r2, _, h⟩ := bind_ok h
        split at h
        · split at h
          · split at h <;> cases h
            exact ⟨_, rfl⟩
          · cases h
        · cases h
      · cases h
        exact ⟨_, rfl⟩
      · cases h
    · cases h
  | and_ a b _ ih =>
    intro r r' xs k h
    obtain ⟨x, r1, _, h⟩ := bind_ok h
    split at h
    · split at h
      · exact ih k h
      · cases h
        exact ⟨_, rfl⟩
      · cases h
    · cases h
  | or_ a b _ ih =>
    intro r r' xs k h
    obtain ⟨x, r1, _, h⟩ := bind_ok h
    split at h
    · split at h
      · cases h
        exact ⟨_, rfl⟩
      · exact ih k h
      · cases h
    · cases h
  | ite cc a b _ iha ihb =>
    intro r r' xs k h
    have k : (a.one && b.one) = true := k
    simp only [Bool.and_eq_true] at k
    obtain ⟨x, r1, _, h⟩ := bind_ok h
    split at h
    · split at h
      · exact iha k.1 h
      · exact ihb k.2 h
      · cases h
    · cases h
  | call f sl a =>
    intro r r' xs _ h
    obtain ⟨x, r1, _, h⟩ := bind_ok h
    split at h
    · split at h
      · split at h <;> cases h
        exact ⟨_, rfl⟩
      · split at h <;> cases h
      · cases h
    · cases h
  | mop o j a =>
    intro r r' xs _ h
    have h : (match r[j]? with
      | some (.ow (.lst _)) => (evl c a r).bind fun x r1 => match a.fresh x r1, owned r1 j with
        | some x, some d => match o.ap d x with
          | some (y, d') => Out.ok [y] (r1.set j (.ow d'))
          | none => .stk
        | _, _ => .stk
      | _ => .stk) = .ok xs r' := h
    split at h
    · obtain ⟨x, r1, _, h⟩ := bind_ok h
      split at h
      · split at h <;> cases h
        exact ⟨_, rfl⟩
      · cases h
    · cases h
  | comp own tg it cc e =>
    intro r r' xs _ h
    obtain ⟨x, r1, _, h⟩ := bind_ok h
    split at h
    · split at h
      · split at h
        · obtain ⟨ys, r2, _, h⟩ := bind_ok h
          cases h
          exact ⟨_, rfl⟩
        · cases h
      · cases h
    · cases h
/-- the first of the arguments, the others behind it -/
theorem args_step {a m : ME} (h1 : a.one = true) (S : SR c.K c.io Fr G σ H r) {ok : List D → Env → Prop} (h : Res c Fr G σ (evl c (.cons a m) r) ok) :
    tP c a σ H fun x H1 => ∃ (G1 : Hp) (r1 : Env) (d : D), SR c.K c.io Fr G1 σ H1 r1 ∧ Same G G1 ∧ APs c.K G1 σ (.cons a .nil) [d] [x] ∧ Res c Fr G1 σ (evl c m r1) fun ds r2 => ok (d :: ds) r2 := by
  refine ⟨Fr, G, r, S, ?_⟩
  have h : Res c Fr G σ ((evl c a r).bind fun x r1 => (evl c m r1).bind fun y r2 => .ok (x ++ y) r2) ok := h
  have h2 := h.bind
  cases e : evl c a r with
  | ok xs r1 =>
    rw [e] at h2
    obtain ⟨d, rfl⟩ := ME.one_ev h1 e
    exact ⟨d, rfl, fun v H' G' S' g k => ⟨G', r1, d, S', g, k, (Res.bind h2).grow g |>.mono fun ds r2 q => q⟩⟩
  | err n fs r1 => rw [e] at h2; exact h2
  | stk => rw [e] at h2; exact h2.elim
theorem APs.cons {a m : ME} {d : D} {v : V} {ds : List D} {vs : List V} (h1 : APs c.K G σ (.cons a .nil) [d] [v]) (h2 : APs c.K G σ m ds vs) : APs c.K G σ (.cons a m) (d :: ds) (v :: vs) := by
  cases a <;> exact ⟨h1.1, h2⟩
/-- an argument list, from the left -/
def ArgsOk (c : Cfg) (X : Cx) : ME → List Expr → Prop
  | .cons a m, e :: es => a.one = true ∧ PE X e (tP c a) ∧ (∀ env, starEach (e :: es) env = (false, eval e env) :: starEach es env) ∧ ArgsOk c X m es
  | .nil, es => es = []
  | _, _ => False
theorem ArgsOk.pa {X : Cx} : ∀ {m : ME} {es : List Expr}, ArgsOk c X m es → PA X es (tA c m) := by
  intro m
  induction m with
  | cons a m _ ih =>
    intro es h
    cases es with
    | nil => exact h.elim
    | cons e es =>
      obtain ⟨h1, h2, h3, h4⟩ := h
      refine paI (pa_cons h2 (ih h4) (h3 _)) fun σ H Q q => ?_
      obtain ⟨Fr, G, r, S, q⟩ := q
      obtain ⟨Fr1, G1, r1, S1, k⟩ := args_step h1 S q
      refine ⟨Fr1, G1, r1, S1, k.mono fun ds r' ⟨d, e, k⟩ => ⟨d, e, fun v H' G' S' g s => ?_⟩⟩
      obtain ⟨G2, r2, d2, S2, g2, a2, k2⟩ := k v H' G' S' g s
      exact ⟨Fr, G2, r2, S2, k2.mono fun ds r3 q vs H3 G3 S3 g3 a3 => q (v :: vs) H3 G3 S3 (g2.trans g3) (APs.cons (a2.mono g3) a3)⟩
  | nil =>
    intro es h
    cases (show es = [] from h)
    refine paI pa_nil fun σ H Q q => ?_
    obtain ⟨Fr, G, r, S, q⟩ := q
    exact q [] H G S (Same.refl _) ⟨rfl, rfl⟩
  | _ => intro es h; exact h.elim
end
end VL

/-! VL6: the operators' nodes. -/
namespace VL
open PySem PySem.Spec L2

/-- what the checker knows: the slots, the names as they are seen, the block's own, the parameters that the caller owns, the defs, the constants -/
structure CkE where
  N : List Str
  names : List (Str × NameKind)
  raw : List (Str × NameKind)
  io : List Nat
  FN : List Str
  gt : List (Str × D)
def bnames : List Str := ["isinstance", "str", "tuple", "list", "int", "bool", "dict", "len", "all", "any", "max", "min", "repr", "range", "enumerate", "sorted", "set", "zip", "sum"]
def gl (k : CkE) (x : Str) : Bool := (match k.names.lookup x with | some .globalImplicit => true | _ => false)
def isGl (k : CkE) (x y : Str) : Bool := decide (x = y) && gl k x
def vis (k : CkE) (j : Nat) (x : Str) : Bool := decide (k.N[j]? = some x) && !decide (x = ("__debug__" : Str)) && !decide (x = ("__classdict__" : Str)) && (match k.names.lookup x with
  | some .local => true
  | some .cell => true
  | some .free => true
  | _ => false)
def plainIx : Expr → Bool
  | .Slice .. => false
  | _ => true
def isSet : Expr → Bool
  | .Set .. => true
  | _ => false
def isStar : Expr → Bool
  | .Starred .. => true
  | _ => false
def call1 (k : CkE) (fn : Str) : Expr → Option (Bool × List Expr)
  | .Call (.Name f _) [x] [] _ => if isGl k f fn then some (true, [x]) else none
  | _ => none
def call2 (k : CkE) (fn : Str) : Expr → Option (Bool × List Expr)
  | .Call (.Name f _) [x, y] [] _ => if isGl k f fn then some (true, [x, y]) else none
  | _ => none
/-- which expressions the operation is over; true: names may be read in passing -/
def splitOp (k : CkE) (o : Op) (e : Expr) : Option (Bool × List Expr) :=
  match o with
  | .tup => match e with
    | .Tuple es _ _ => some (false, es)
    | _ => none
  | .lst => match e with
    | .List es _ => some (false, es)
    | _ => none
  | .isi t => match e with
    | .Call (.Name f _) [x, .Name ty _] [] _ => if isGl k f "isinstance" && isGl k ty t.name then some (true, [x]) else none
    | _ => none
  | .len => call1 k "len" e
  | .all => call1 k "all" e
  | .any => call1 k "any" e
  | .repr => call1 k "repr" e
  | .toInt => call1 k "int" e
  | .toList => call1 k "list" e
  | .toTuple => call1 k "tuple" e
  | .max2 => call2 k "max" e
  | .min2 => call2 k "min" e
  | .eq => match e with
    | .Compare a [.Eq] [b] _ => some (true, [a, b])
    | _ => none
  | .ne => match e with
    | .Compare a [.NotEq] [b] _ => some (true, [a, b])
    | _ => none
  | .lt => match e with
    | .Compare a [.Lt] [b] _ => some (true, [a, b])
    | _ => none
  | .le => match e with
    | .Compare a [.LtE] [b] _ => some (true, [a, b])
    | _ => none
  | .gt => match e with
    | .Compare a [.Gt] [b] _ => some (true, [a, b])
    | _ => none
  | .ge => match e with
    | .Compare a [.GtE] [b] _ => some (true, [a, b])
    | _ => none
  | .isin => match e with
    | .Compare a [.In] [b] _ => if isSet b then none else some (true, [a, b])
    | _ => none
  | .notin => match e with
    | .Compare a [.NotIn] [b] _ => if isSet b then none else some (true, [a, b])
    | _ => none
  | .isN => match e with
    | .Compare a [.Is] [.Constant .none _ _] _ => some (true, [a])
    | _ => none
  | .notN => match e with
    | .Compare a [.IsNot] [.Constant .none _ _] _ => some (true, [a])
    | _ => none
  | .add => match e with
    | .BinOp a .Add b _ => some (true, [a, b])
    | _ => none
  | .sub => match e with
    | .BinOp a .Sub b _ => some (true, [a, b])
    | _ => none
  | .mul => match e with
    | .BinOp a .Mult b _ => some (true, [a, b])
    | _ => none
  | .mod => match e with
    | .BinOp a .Mod b _ => some (true, [a, b])
    | _ => none
  | .fdiv => match e with
    | .BinOp a .FloorDiv b _ => some (true, [a, b])
    | _ => none
  | .pow => match e with
    | .BinOp a .Pow b _ => some (true, [a, b])
    | _ => none
  | .neg => match e with
    | .UnaryOp .USub a _ => some (true, [a])
    | _ => none
  | .not_ => match e with
    | .UnaryOp .Not a _ => some (true, [a])
    | _ => none
  | .ix => match e with
    | .Subscript a b _ => if plainIx b then some (true, [a, b]) else none
    | _ => none
  | .sl lo hi => match e with
    | .Subscript a (.Slice l h none _) _ => if decide (l.isSome = lo) && decide (h.isSome = hi) && !(lo && hi) then some (true, a :: (l.toList ++ h.toList)) else none
    | _ => none
  | _ => none

/-- what is wanted of a context -/
structure XOk0 (X : Cx) (c : Cfg) (k : CkE) : Prop where
  g : XG X
  K : X.K = c.K
  N : X.N = k.N
  nd : k.N.Nodup
  nm : X.env.scope.names = k.names
  raw : ∀ x, (k.raw.lookup x = some .local ∨ k.raw.lookup x = some .cell) → Loc X.env.scope x ∧ (X.fn x = true ∨ X.env.scope.names.lookup x = some .local)
  io : ∀ p ∈ c.io, p.1 ∈ k.io
  tk : Takes X c.W
  bt : ∀ x ∈ bnames, X.mg x = none
  gtk : k.gt = c.P.gt
  gl : ∀ (i : Nat) (x : Str) (d : D), c.P.gt[i]? = some (x, d) → ∃ (u : Value) (v : V), X.mg x = some u ∧ RelV v u ∧ ∀ G, RV c.K G d v

section
variable {X : Cx} {c : Cfg} {k : CkE} {Fr G G' H H' : Hp} {σ : L2.St} {r : Env}
theorem tP.imp {m : ME} {Q Q' : VK} (h : tP c m σ H Q) (q : ∀ v H', Q v H' → Q' v H') : tP c m σ H Q' := by
  obtain ⟨Fr, G, r, S, h⟩ := h
  exact ⟨Fr, G, r, S, h.mono fun ds r' ⟨d, e, k⟩ => ⟨d, e, fun v H' G' S' g a => q _ _ (k v H' G' S' g a)⟩⟩
theorem args1 {a : ME} (h1 : a.one = true) (S : SR c.K c.io Fr G σ H r) {ok : List D → Env → Prop} (h : Res c Fr G σ (evl c (.cons a .nil) r) ok) :
    tP c a σ H fun x H1 => ∃ (G1 : Hp) (r1 : Env) (ds : List D), SR c.K c.io Fr G1 σ H1 r1 ∧ Same G G1 ∧ APs c.K G1 σ (.cons a .nil) ds [x] ∧ ok ds r1 :=
  (args_step h1 S h).imp fun x H1 ⟨G1, r1, d, S1, g, a1, q⟩ => ⟨G1, r1, [d], S1, g, a1, q⟩
theorem args2 {a b : ME} (h1 : a.one = true) (h2 : b.one = true) (S : SR c.K c.io Fr G σ H r) {ok : List D → Env → Prop} (h : Res c Fr G σ (evl c (.cons a (.cons b .nil)) r) ok) :
    tP c a σ H fun x H1 => tP c b σ H1 fun y H2 => ∃ (G1 : Hp) (r1 : Env) (ds : List D), SR c.K c.io Fr G1 σ H2 r1 ∧ Same G G1 ∧ APs c.K G1 σ (.cons a (.cons b .nil)) ds [x, y] ∧ ok ds r1 :=
  (args_step h1 S h).imp fun x H1 ⟨G1, r1, d, S1, g, a1, q⟩ => (args1 h2 S1 q).imp fun y H2 ⟨G2, r2, ds, S2, g2, a2, q2⟩ => by
    cases ds with
    | nil => exact ⟨G2, r2, _, S2, g.trans g2, (APs.cons (a1.mono g2) a2 : APs c.K G2 σ (.cons a (.cons b .nil)) (d :: []) [x, y]), q2⟩
    | cons e es => exact ⟨G2, r2, _, S2, g.trans g2, APs.cons (a1.mono g2) a2, q2⟩
theorem args3 {a b z : ME} (h1 : a.one = true) (h2 : b.one = true) (h3 : z.one = true) (S : SR c.K c.io Fr G σ H r) {ok : List D → Env → Prop} (h : Res c Fr G σ (evl c (.cons a (.cons b (.cons z .nil))) r) ok) :
    tP c a σ H fun x H1 => tP c b σ H1 fun y H2 => tP c z σ H2 fun w H3 => ∃ (G1 : Hp) (r1 : Env) (ds : List D), SR c.K c.io Fr G1 σ H3 r1 ∧ Same G G1 ∧ APs c.K G1 σ (.cons a (.cons b (.cons z .nil))) ds [x, y, w] ∧ ok ds r1 :=
  (args_step h1 S h).imp fun x H1 ⟨G1, r1, d, S1, g, a1, q⟩ => (args2 h2 h3 S1 q).imp fun y H2 q2 => q2.imp fun w H3 ⟨G2, r2, ds, S2, g2, a2, q2⟩ =>
    ⟨G2, r2, d :: ds, S2, g.trans g2, APs.cons (a1.mono g2) a2, q2⟩
theorem op_res {o : Op} {a : ME} {ok : List D → Env → Prop} (h : Res c Fr G σ (evl c (.op o a) r) ok) : Res c Fr G σ (evl c a r) fun ds r1 => ∃ ds' d, a.fresh ds r1 = some ds' ∧ ap o ds' = some d ∧ ok [d] r1 := by
  have h : Res c Fr G σ ((evl c a r).bind fun x r1 => match a.fresh x r1 with
    | some x => match o.ap shownD x with
      | some d => .ok [d] r1
      | none => .stk
    | none => .stk) ok := h
  refine h.bind.mono fun ds r1 q => ?_
  cases e : a.fresh ds r1 with
  | none => rw [e] at q; exact q.elim
  | some ds' =>
    rw [e] at q
    cases e2 : ap o ds' with
    | none =>
      have q : Res c Fr G σ (match o.ap shownD ds' with
        | some d => Out.ok [d] r1
        | none => .stk) ok := q
      rw [show o.ap shownD ds' = none from e2] at q
      exact q.elim
    | some d =>
      have q : Res c Fr G σ (match o.ap shownD ds' with
        | some d => Out.ok [d] r1
        | none => .stk) ok := q
      rw [show o.ap shownD ds' = some d from e2] at q
      exact ⟨ds', d, rfl, e2, q⟩
theorem post_of {fr : Bool} {d : D} {Q : VK} {G1 H1 : Hp} {r1 : Env} (S : SR c.K c.io Fr G1 σ H1 r1) (g : Same G G1) (h : ∀ (v : V) (H' G' : Hp), SR c.K c.io Fr G' σ H' r1 → Same G G' → SV c.K fr Fr G' H' σ r1 d v → Q v H') : OpPost c.K G1 H1 fr d Q := by
  refine ⟨fun v hm rv => h v H1 G1 S g ?_, fun p o hp hn => ?_⟩
  · unfold SV
    split
    · rename_i hf
      unfold FV
      rw [if_neg (by rw [hm hf]; exact Bool.false_ne_true)]
      exact rv
    · exact rv
  · have gN : Same G1 (upd G1 p o) := same_upd (S.none_g hp)
    cases d with
    | lst ds =>
      obtain ⟨vs, rfl, rv⟩ := hn
      by_cases hf : fr = true
      · refine h _ _ G1 (S.grow hp) g ?_
        unfold SV FV
        rw [if_pos hf, if_pos (show (D.lst ds).mutb = true from rfl)]
        exact ⟨p, rfl, ⟨vs, upd_same, rv⟩, S.none_g hp, S.none_f hp, S.none_own hp⟩
      · refine h _ _ _ (S.new hp) (g.trans gN) ?_
        unfold SV
        rw [if_neg hf]
        exact ⟨p, vs, rfl, SqL.of upd_same, RVs.mono gN rv⟩
    | tup ds =>
      obtain ⟨vs, rfl, rv⟩ := hn
      refine h _ _ _ (S.new hp) (g.trans gN) ?_
      have : RV c.K (upd G1 p (.tup vs)) (.tup ds) (.ref p) := ⟨p, vs, rfl, SqT.of upd_same, RVs.mono gN rv⟩
      unfold SV
      split
      · unfold FV
        rw [if_neg (by exact Bool.false_ne_true)]
        exact this
      · exact this
    | dct ds =>
      obtain ⟨rfl, rfl⟩ := hn
      by_cases hf : fr = true
      · refine h _ _ G1 (S.grow hp) g ?_
        unfold SV FV
        rw [if_pos hf, if_pos (show (D.dct []).mutb = true from rfl)]
        exact ⟨p, rfl, ⟨rfl, upd_same⟩, S.none_g hp, S.none_f hp, S.none_own hp⟩
      · refine h _ _ _ (S.new hp) (g.trans gN) ?_
        unfold SV
        rw [if_neg hf]
        exact ⟨p, rfl, rfl, upd_same⟩
    | _ => exact hn.elim
/-- by the values of all arguments -/
theorem by_all {o : Op} {a : ME} {fr : Bool} {Q : VK} (hK : X.K = c.K) (h : tS c fr (.op o a) σ H Q) : tA c a σ H fun vs H1 => rDn X.K o fr vs H1 Q := by
  obtain ⟨Fr, G, r, S, h⟩ := h
  refine ⟨Fr, G, r, S, (op_res h).mono fun ds r1 ⟨ds', d, e1, e2, d', e3, q⟩ vs H1 G1 S1 g1 a1 => ?_⟩
  cases e3
  rw [hK]
  exact ⟨G1, ds', d, S1.g, APs.fresh S1 a1 e1, e2, post_of S1 g1 q⟩
theorem by_two {o : Op} {a b : ME} {fr : Bool} {Q : VK} (hK : X.K = c.K) (h1 : a.one = true) (h2 : b.one = true) (h : tS c fr (.op o (.cons a (.cons b .nil))) σ H Q) : tOp (rD2 X.K o fr) (tP c a) (tP c b) σ H Q := by
  obtain ⟨Fr, G, r, S, h⟩ := h
  refine (args2 h1 h2 S (op_res h)).imp fun x H1 q => q.imp fun y H2 ⟨G1, r1, ds, S1, g1, a1, ds', d, e1, e2, d', e3, q⟩ => ?_
  cases e3
  have k := APs.fresh S1 a1 e1
  obtain ⟨z, rr, z1, k1, k2⟩ : ∃ (d1 d2 : D), ds' = [d1, d2] ∧ VW c.K G1 H2 d1 x ∧ VW c.K G1 H2 d2 y := by
    match ds', k with
    | [d1, d2], k =>
      obtain ⟨v, w, e, q1, q2⟩ := VWs.two k
      cases e
      exact ⟨d1, d2, rfl, q1, q2⟩
    | [], k => cases (show _ = [] from k)
    | [d1], k => obtain ⟨v, rr, e, _, q⟩ := k; cases e; cases (show _ = [] from q)
    | d1 :: d2 :: d3 :: _, k => obtain ⟨v, rr, e, _, v2, r2, e2, _, v3, r3, e3, _⟩ := k; cases e; cases e2; cases e3
  subst z1
  rw [hK]
  exact ⟨G1, z, rr, d, S1.g, k1, k2, e2, post_of S1 g1 q⟩
theorem by_one {o : Op} {a : ME} {fr : Bool} {Q : VK} (hK : X.K = c.K) (h1 : a.one = true) (h : tS c fr (.op o (.cons a .nil)) σ H Q) : tP c a σ H fun x H1 => rD1 X.K o fr x H1 Q := by
  obtain ⟨Fr, G, r, S, h⟩ := h
  refine (args1 h1 S (op_res h)).imp fun x H1 ⟨G1, r1, ds, S1, g1, a1, ds', d, e1, e2, d', e3, q⟩ => ?_
  cases e3
  have k := APs.fresh S1 a1 e1
  obtain ⟨z, z1, k1⟩ : ∃ (d1 : D), ds' = [d1] ∧ VW c.K G1 H1 d1 x := by
    match ds', k with
    | [d1], k =>
      obtain ⟨v, e, q1⟩ := VWs.one k
      cases e
      exact ⟨d1, rfl, q1⟩
    | [], k => cases (show _ = [] from k)
    | d1 :: d2 :: _, k => obtain ⟨v, rr, e, _, v2, r2, e2, _⟩ := k; cases e; cases e2
  subst z1
  rw [hK]
  exact ⟨G1, z, d, S1.g, k1, e2, post_of S1 g1 q⟩
theorem ArgsOk.plain : ∀ {m : ME} {es : List Expr}, ArgsOk c X m es → ∀ (pos : Pos) (env : PySem.Env), (backTo pos (starEach es env)).any (·.1) = false := by
  intro m
  induction m with
  | cons a m _ ih =>
    intro es h pos env
    cases es with
    | nil => exact h.elim
    | cons e es =>
      obtain ⟨_, _, h3, h4⟩ := h
      rw [h3]
      show ((false, _) :: backTo pos (starEach es env)).any _ = false
      rw [List.any_cons, ih h4]
      rfl
  | nil => intro es h; cases (show es = [] from h); intro _ _; rfl
  | _ => intro es h; exact h.elim
theorem isGl_of {x y : Str} (h : isGl k x y = true) : x = y ∧ k.names.lookup x = some .globalImplicit := by
  unfold isGl gl at h
  simp only [Bool.and_eq_true, decide_eq_true_eq] at h
  obtain ⟨h1, h2⟩ := h
  refine ⟨h1, ?_⟩
  split at h2
  · assumption
  · cases h2
theorem XOk0.gl0 (O : XOk0 X c k) {x : Str} (h : k.names.lookup x = some .globalImplicit) : Gl X x := by
  show X.env.scope.names.lookup x = _
  rw [O.nm]
  exact h
/-- a built-in function by its name -/
theorem pe_b (O : XOk0 X c k) {o : Op} {fr : Bool} {x : Str} {id : String} {a : ME} {e : Expr} {es : List Expr} {p pos : Pos} (hc : CallR X (.builtin id) (rDn X.K o fr)) (hx : k.names.lookup x = some .globalImplicit) (hb : x ∈ bnames)
    (hv : bootBuiltins x = some (.builtin id)) (ha : ArgsOk c X a (e :: es)) (hn : x ≠ "__name__" := by decide) (hdb : (x == ("__debug__" : Str)) = false := by decide) : PE X (.Call (.Name x p) (e :: es) [] pos) (tS c fr (.op o a)) := by
  cases a <;> try exact ha.elim
  case nil => cases (show e :: es = [] from ha)
  case cons a m =>
    refine peI (pe_callB hc (O.gl0 hx) (O.bt x hb) hv ha.pa hn hdb (ha.2.2.1 _) (ha.2.2.2.plain _ _)) fun σ H Q q => by_all O.K q
theorem pe_ty (O : XOk0 X c k) {o : Op} {fr : Bool} {x : Str} {id : String} {a : ME} {e : Expr} {es : List Expr} {p pos : Pos} (hc : CallR X (.type id) (rDn X.K o fr)) (hx : k.names.lookup x = some .globalImplicit) (hb : x ∈ bnames)
    (hv : bootBuiltins x = some (.type id)) (ha : ArgsOk c X a (e :: es)) (hn : x ≠ "__name__" := by decide) (hdb : (x == ("__debug__" : Str)) = false := by decide) : PE X (.Call (.Name x p) (e :: es) [] pos) (tS c fr (.op o a)) := by
  cases a <;> try exact ha.elim
  case nil => cases (show e :: es = [] from ha)
  case cons a m =>
    refine peI (pe_callTy hc (O.gl0 hx) (O.bt x hb) hv ha.pa hn hdb (ha.2.2.1 _) (ha.2.2.2.plain _ _)) fun σ H Q q => by_all O.K q
theorem ArgsOk.two {a : ME} {e1 e2 : Expr} (h : ArgsOk c X a [e1, e2]) : ∃ a1 a2, a = .cons a1 (.cons a2 .nil) ∧ a1.one = true ∧ a2.one = true ∧ PE X e1 (tP c a1) ∧ PE X e2 (tP c a2) := by
  cases a <;> try exact h.elim
  case nil => cases (show [e1, e2] = [] from h)
  case cons a m =>
    obtain ⟨h1, h2, _, h3⟩ := h
    cases m <;> try exact h3.elim
    case nil => cases (show [e2] = [] from h3)
    case cons b m =>
      obtain ⟨k1, k2, _, k3⟩ := h3
      cases m <;> try exact k3.elim
      case nil => exact ⟨a, b, rfl, h1, k1, h2, k2⟩
theorem ArgsOk.single {a : ME} {e1 : Expr} (h : ArgsOk c X a [e1]) : ∃ a1, a = .cons a1 .nil ∧ a1.one = true ∧ PE X e1 (tP c a1) := by
  cases a <;> try exact h.elim
  case nil => cases (show [e1] = [] from h)
  case cons a m =>
    obtain ⟨h1, h2, _, h3⟩ := h
    cases m <;> try exact h3.elim
    case nil => exact ⟨a, rfl, h1, h2⟩
theorem ArgsOk.three {a : ME} {e1 e2 e3 : Expr} (h : ArgsOk c X a [e1, e2, e3]) : ∃ a1 a2 a3, a = .cons a1 (.cons a2 (.cons a3 .nil)) ∧ a1.one = true ∧ a2.one = true ∧ a3.one = true ∧ PE X e1 (tP c a1) ∧ PE X e2 (tP c a2) ∧ PE X e3 (tP c a3) := by
  cases a <;> try exact h.elim
  case nil => cases (show [e1, e2, e3] = [] from h)
  case cons a m =>
    obtain ⟨h1, h2, _, h3⟩ := h
    obtain ⟨b, z, rfl, k1, k2, k3, k4⟩ := ArgsOk.two h3
    exact ⟨a, b, z, rfl, h1, k1, k2, h2, k3, k4⟩
/-- two operands -/
theorem pe_bin (O : XOk0 X c k) {o : Op} {fr : Bool} {op : Operator} {a : ME} {e1 e2 : Expr} {pos : Pos} (hc : OpR X (binaryOp op) (rD2 X.K o fr)) (ha : ArgsOk c X a [e1, e2]) : PE X (.BinOp e1 op e2 pos) (tS c fr (.op o a)) := by
  obtain ⟨a1, a2, rfl, h1, h2, p1, p2⟩ := ha.two
  exact peI (pe_op hc p1 p2) fun σ H Q q => by_two O.K h1 h2 q
theorem pe_cm (O : XOk0 X c k) {o : Op} {fr : Bool} {op : CmpOp} {a : ME} {e1 e2 : Expr} {pos : Pos} (hc : OpR X (compareOp op) (rD2 X.K o fr)) (hm : behindInMarks op e2 = false) (ha : ArgsOk c X a [e1, e2]) : PE X (.Compare e1 [op] [e2] pos) (tS c fr (.op o a)) := by
  obtain ⟨a1, a2, rfl, h1, h2, p1, p2⟩ := ha.two
  exact peI (pe_cmpR hc p1 p2 hm) fun σ H Q q => by_two O.K h1 h2 q
/-- a comparison's test: its value is a bool -/
theorem tT_tS {m : ME} {Q : Bool → Hp → Prop} (hb : ∀ r ds r', evl c m r = .ok ds r' → ∃ b, ds = [.bl b]) (h : tT c m σ H Q) : tS c true m σ H fun x H' => ∃ k, x = .bl k ∧ Q k H' := by
  obtain ⟨Fr, G, r, S, h⟩ := h
  refine ⟨Fr, G, r, S, ?_⟩
  have h : Res c Fr G σ ((evl c m r).bind fun x r1 => match x with
    | [x] => match x.tru with
      | some b => .ok b r1
      | none => .stk
    | _ => .stk) _ := h
  cases e : evl c m r with
  | stk => rw [e] at h; exact h
  | err n fs r1 => rw [e] at h; exact h
  | ok ds r1 =>
    rw [e] at h
    obtain ⟨b, rfl⟩ := hb r ds r1 e
    refine ⟨.bl b, rfl, fun v H' G' S' g sv => ⟨b, ?_, h H' G' S' g⟩⟩
    unfold SV FV at sv
    rw [if_pos rfl, if_neg (by exact Bool.false_ne_true)] at sv
    exact sv
theorem pt_cm (O : XOk0 X c k) {o : Op} {op : CmpOp} {a : ME} {e1 e2 : Expr} {pos : Pos} (hc : OpR X (compareOp op) (rD2 X.K o true)) (hm : behindInMarks op e2 = false) (ha : ArgsOk c X a [e1, e2])
    (hb : ∀ r ds r', evl c (.op o a) r = .ok ds r' → ∃ b, ds = [.bl b]) : PT X (.Compare e1 [op] [e2] pos) (tT c (.op o a)) := by
  obtain ⟨a1, a2, rfl, h1, h2, p1, p2⟩ := ha.two
  exact ptI (pt_cmpR hc p1 p2 hm) fun σ H Q q => by_two O.K h1 h2 (tT_tS hb q)
theorem bl_of_op {o : Op} {a : ME} (ho : ∀ ds d, ap o ds = some d → ∃ b, d = .bl b) : ∀ r ds r', evl c (.op o a) r = .ok ds r' → ∃ b, ds = [.bl b] := by
  intro r ds r' h
  obtain ⟨x, r1, _, h⟩ := bind_ok (show ((evl c a r).bind fun x r1 => match a.fresh x r1 with
    | some x => match o.ap shownD x with
      | some d => .ok [d] r1
      | none => .stk
    | none => .stk) = .ok ds r' from h)
  split at h
  · split at h
    · rename_i d e
      cases h
      obtain ⟨b, rfl⟩ := ho _ _ e
      exact ⟨b, rfl⟩
    · cases h
  · cases h

theorem SV_fr_rv {d : D} {v : V} {fr : Bool} (h : RV c.K G d v) (hd : d.mutb = false) : SV c.K fr Fr G H σ r d v := by
  unfold SV FV
  split
  · rw [if_neg (by rw [hd]; exact Bool.false_ne_true)]
    exact h
  · exact h
/-- all frozen, no name in passing -/
def noNm : ME → Bool
  | .cons a m => !isNm a && noNm m
  | .nil => true
  | _ => false
theorem APs.rvs : ∀ {m : ME} {ds : List D} {vs : List V}, noNm m = true → APs c.K G σ m ds vs → RVs c.K G ds vs := by
  intro m
  induction m with
  | cons a m _ ih =>
    intro ds vs hn h
    have hn : (!isNm a && noNm m) = true := hn
    simp only [Bool.and_eq_true, Bool.not_eq_true'] at hn
    cases ds with
    | nil => cases a <;> exact h.elim
    | cons d ds =>
      cases vs with
      | nil => cases a <;> exact h.elim
      | cons v vs =>
        cases a <;> first | exact RVs.cons h.1 (ih hn.2 h.2) | exact Bool.noConfusion hn.1
  | nil =>
    intro ds vs _ h
    obtain ⟨rfl, rfl⟩ := h
    exact RVs.nil
  | _ => intro ds vs h; cases h
theorem fresh_same : ∀ {m : ME} {ds ds' : List D} {r : Env}, noNm m = true → m.fresh ds r = some ds' → ds' = ds := by
  intro m
  induction m with
  | cons a m _ ih =>
    intro ds ds' r hn h
    have hn : (!isNm a && noNm m) = true := hn
    simp only [Bool.and_eq_true, Bool.not_eq_true'] at hn
    cases ds with
    | nil => cases a <;> cases h
    | cons d ds =>
      have h1 : (m.fresh ds r).map (d :: ·) = some ds' := by
        cases a <;> first | exact h | exact Bool.noConfusion hn.1
      cases e : m.fresh ds r with
      | none => rw [e] at h1; cases h1
      | some l =>
        rw [e] at h1
        cases h1
        rw [ih hn.2 e]
  | nil => intro ds ds' r _ h; cases ds <;> cases h; rfl
  | _ => intro ds ds' r h; cases h
/-- a display: the values, then a new object -/
theorem disp_post {o : Op} {a : ME} {Q : VK} (hn : noNm a = true) (h : tS c true (.op o a) σ H Q) (mk : List V → HO) (ho : ∀ ds d, ap o ds = some d → ds.length ≤ sizeLine ∧ ∀ G vs, RVs c.K G ds vs → NewO c.K G d (mk vs)) :
    tA c a σ H fun xs H1 => xs.length ≤ sizeLine ∧ ∀ p, H1 p = none → Q (.ref p) (upd H1 p (mk xs)) := by
  obtain ⟨Fr, G, r, S, h⟩ := h
  refine ⟨Fr, G, r, S, (op_res h).mono fun ds r1 ⟨ds', d, e1, e2, d', e3, q⟩ vs H1 G1 S1 g1 a1 => ?_⟩
  cases e3
  have e4 := fresh_same hn e1
  subst e4
  have rv := APs.rvs hn a1
  obtain ⟨hl, hN⟩ := ho _ _ e2
  exact ⟨by rw [RVs.len rv]; exact hl, fun p hp => (post_of S1 g1 q).new p _ hp (hN G1 vs rv)⟩
theorem pe_dt (O : XOk0 X c k) {a : ME} {es : List Expr} {kk : Nat} {pos : Pos} (hn : noNm a = true) (ha : PA X es (tA c a)) : PE X (.Tuple es kk pos) (tS c true (.op .tup a)) :=
  peI (pe_tup ha) fun σ H Q q => disp_post hn q .tup fun ds d e => by
    have e : (if ds.length ≤ line then some (D.tup ds) else none) = some d := e
    split at e
    · rename_i hl
      cases e
      exact ⟨by rw [← line_eq]; exact hl, fun G vs rv => ⟨vs, rfl, rv⟩⟩
    · cases e
theorem pe_dl (O : XOk0 X c k) {a : ME} {es : List Expr} {pos : Pos} (hn : noNm a = true) (ha : PA X es (tA c a)) : PE X (.List es pos) (tS c true (.op .lst a)) :=
  peI (pe_lst ha) fun σ H Q q => disp_post hn q .lst fun ds d e => by
    have e : (if ds.length ≤ line then some (D.lst ds) else none) = some d := e
    split at e
    · rename_i hl
      cases e
      exact ⟨by rw [← line_eq]; exact hl, fun G vs rv => ⟨vs, rfl, rv⟩⟩
    · cases e
theorem nomark' (b : Expr) {op : CmpOp} (h : isSet b = false) : behindInMarks op b = false := by
  cases b <;> first | rfl | exact Bool.noConfusion h
theorem pix {b : Expr} (h : plainIx b = true) : PlainIx b := by
  cases b <;> first | exact fun _ _ => rfl | exact Bool.noConfusion h
theorem pe_sl (O : XOk0 X c k) {lo hi : Bool} {a : ME} {e : Expr} {l h : Option Expr} {p2 pos : Pos} (hl : l.isSome = lo) (hh : h.isSome = hi) (hb : (lo && hi) = false) (ha : ArgsOk c X a (e :: (l.toList ++ h.toList))) : PE X (.Subscript e (.Slice l h none p2) pos) (tS c true (.op (.sl lo hi) a)) := by
  have post : ∀ {σ : L2.St} {H2 : Hp} {xs : List V} {G r1 ds} {Q : VK} {Fr : Hp}, (∃ (G1 : Hp) (r2 : Env) (ds : List D), SR c.K c.io Fr G1 σ H2 r2 ∧ Same G G1 ∧ APs c.K G1 σ a ds xs ∧ ∃ ds' d, a.fresh ds r2 = some ds' ∧ ap (.sl lo hi) ds' = some d ∧ ∃ d', [d] = [d'] ∧ ∀ (v : V) (H' G' : Hp), SR c.K c.io Fr G' σ H' r2 → Same G G' → SV c.K true Fr G' H' σ r2 d' v → Q v H') → (r1 : Env) = r1 → (ds : List D) = ds →
      ∃ (G1 : Hp) (ds' : List D) (d : D), Same G1 H2 ∧ VWs c.K G1 H2 ds' xs ∧ ap (.sl lo hi) ds' = some d ∧ OpPost c.K G1 H2 true d Q := by
    intro σ H2 xs G r1 ds Q Fr ⟨G1, r2, ds, S1, g1, a1, ds', d, e1, e2, d', e3, q⟩ _ _
    cases e3
    exact ⟨G1, ds', d, S1.g, APs.fresh S1 a1 e1, e2, post_of S1 g1 q⟩
  cases l with
  | none =>
    cases h with
    | none =>
      cases hl; cases hh
      obtain ⟨a1, rfl, h1, p1⟩ := ArgsOk.single ha
      refine peI (pe_slice sl_D p1 po_none po_none) fun σ H Q q => ?_
      obtain ⟨Fr, G, r, S, q⟩ := q
      refine (args1 h1 S (op_res q)).imp fun x H1 q => ?_
      obtain ⟨G1, ds', d, g, kv, e2, q⟩ := post q (rfl : r = r) (rfl : ([] : List D) = [])
      match ds', kv, e2 with
      | [d1], kv, e2 =>
        obtain ⟨v, e, q1⟩ := VWs.one kv
        cases e
        rw [← O.K] at q1 q
        exact ⟨G1, d1, d, g, q1, e2, q⟩
      | [], kv, _ => cases (show _ = [] from kv)
      | d1 :: d2 :: _, kv, _ => obtain ⟨v, rr, e, _, v2, r2, e2, _⟩ := kv; cases e; cases e2
    | some y =>
      cases hl; cases hh
      obtain ⟨a1, a2, rfl, h1, h2, p1, p2⟩ := ArgsOk.two ha
      refine peI (pe_slice sl_D p1 po_none (po_some p2)) fun σ H Q q => ?_
      obtain ⟨Fr, G, r, S, q⟩ := q
      refine (args2 h1 h2 S (op_res q)).imp fun x H1 q => q.imp fun y H2 q => ?_
      obtain ⟨G1, ds', d, g, kv, e2, q⟩ := post q (rfl : r = r) (rfl : ([] : List D) = [])
      match ds', kv, e2 with
      | [d1, .int j], kv, e2 =>
        obtain ⟨v, w, e, q1, q2⟩ := VWs.two kv
        cases e
        rw [← O.K] at q1 q
        exact ⟨j, q2.int, G1, d1, d, g, q1, e2, q⟩
      | [], kv, _ => cases (show _ = [] from kv)
      | [d1], kv, _ => obtain ⟨v, rr, e, _, q⟩ := kv; cases e; cases (show _ = [] from q)
      | [_, .non], _, e2 | [_, .bl _], _, e2 | [_, .str _], _, e2 | [_, .tup _], _, e2 | [_, .lst _], _, e2 | [_, .dct _], _, e2 => cases e2
      | d1 :: d2 :: d3 :: _, kv, _ => obtain ⟨v, rr, e, _, v2, r2, e2, _, v3, r3, e3, _⟩ := kv; cases e; cases e2; cases e3
  | some x0 =>
    cases h with
    | none =>
      cases hl; cases hh
      obtain ⟨a1, a2, rfl, h1, h2, p1, p2⟩ := ArgsOk.two ha
      refine peI (pe_slice sl_D p1 (po_some p2) po_none) fun σ H Q q => ?_
      obtain ⟨Fr, G, r, S, q⟩ := q
      refine (args2 h1 h2 S (op_res q)).imp fun x H1 q => q.imp fun y H2 q => ?_
      obtain ⟨G1, ds', d, g, kv, e2, q⟩ := post q (rfl : r = r) (rfl : ([] : List D) = [])
      match ds', kv, e2 with
      | [d1, .int j], kv, e2 =>
        obtain ⟨v, w, e, q1, q2⟩ := VWs.two kv
        cases e
        rw [← O.K] at q1 q
        exact ⟨j, q2.int, G1, d1, d, g, q1, e2, q⟩
      | [], kv, _ => cases (show _ = [] from kv)
      | [d1], kv, _ => obtain ⟨v, rr, e, _, q⟩ := kv; cases e; cases (show _ = [] from q)
      | [_, .non], _, e2 | [_, .bl _], _, e2 | [_, .str _], _, e2 | [_, .tup _], _, e2 | [_, .lst _], _, e2 | [_, .dct _], _, e2 => cases e2
      | d1 :: d2 :: d3 :: _, kv, _ => obtain ⟨v, rr, e, _, v2, r2, e2, _, v3, r3, e3, _⟩ := kv; cases e; cases e2; cases e3
    | some y0 =>
      cases hl
      cases hh
      cases hb
end
end VL

/-! VL7: every operation's node. -/
namespace VL
open PySem PySem.Spec L2
section
variable {X : Cx} {c : Cfg} {k : CkE} {Fr G G' H H' : Hp} {σ : L2.St} {r : Env}
theorem boot_ty (t : Ty) : bootBuiltins (t.name : Str) = some (.type t.name) := by cases t <;> decide +kernel
theorem ty_bn (t : Ty) : (t.name : Str) ∈ bnames := by cases t <;> decide +kernel
theorem ty_dbg (t : Ty) : ((t.name : Str) == ("__debug__" : Str)) = false := by cases t <;> decide +kernel
theorem ty_nn (t : Ty) : (t.name : Str) ≠ "__name__" := by cases t <;> decide +kernel
theorem pe_isi (O : XOk0 X c k) {t : Ty} {a : ME} {e : Expr} {p p2 pos : Pos} (hx : k.names.lookup ("isinstance" : Str) = some .globalImplicit) (ht : k.names.lookup (t.name : Str) = some .globalImplicit) (ha : ArgsOk c X a [e]) :
    PE X (.Call (.Name "isinstance" p) [e, .Name t.name p2] [] pos) (tS c true (.op (.isi t) a)) := by
  cases a <;> try exact ha.elim
  case nil => cases (show [e] = [] from ha)
  case cons a m =>
    obtain ⟨h1, p1, h3, h4⟩ := ha
    cases m <;> try exact h4.elim
    case nil =>
      have p2' : PE X (.Name t.name p2) (tC (.ty t.name)) := pe_bltn (O.gl0 ht) (O.bt _ (ty_bn t)) (boot_ty t) (show RelV (.ty t.name) (.type t.name) from rfl) (ty_nn t) (ty_dbg t)
      have hst : ∀ env, starEach (e :: [Expr.Name t.name p2]) env = (false, eval e env) :: starEach [Expr.Name t.name p2] env := fun env => by
        have := h3 env
        cases e <;> first | rfl | (exfalso; simp [starEach] at this)
      refine peI (pe_callB (cr_isi t) (O.gl0 hx) (O.bt _ (by decide +kernel)) (by decide +kernel) (pa_cons p1 (pa_cons p2' pa_nil) (hst _)) (by decide) (by decide) (hst _) (by rfl)) fun σ H Q q => ?_
      exact (by_one O.K h1 q).imp fun x H1 q => ⟨x, rfl, q⟩
theorem ap_not {d1 d : D} (h : ap .not_ [d1] = some d) : ∃ b, d1.tru = some b ∧ d = .bl (!b) := by
  have h : (d1.tru.map fun b => D.bl (!b)) = some d := h
  cases e : d1.tru with
  | none => rw [e] at h; cases h
  | some b =>
    rw [e] at h
    cases h
    exact ⟨b, rfl, rfl⟩
theorem is_none {X : Cx} {e : Expr} {ta : TE} {kk : Nat} {pos p2 : Pos} {op : CmpOp} {r : V → Hp → VK → Prop} (ho : OpR X (compareOp op) fun x y H Q => y = .non ∧ r x H Q) (hm : behindInMarks op (.Constant .none kk p2) = false) (h : PE X e ta) : PE X (.Compare e [op] [.Constant .none kk p2] pos) (tUn r ta) :=
  peI (pe_cmpR ho h pe_non hm) fun σ H Q q => by
    refine (show ta σ H fun x H1 => (tC .non) σ H1 fun y H2 => y = .non ∧ r x H2 Q from ?_)
    have : (fun x H1 => (tC V.non) σ H1 fun y H2 => y = .non ∧ r x H2 Q) = fun x H1 => r x H1 Q := by
      funext x H1
      show (V.non = V.non ∧ r x H1 Q) = r x H1 Q
      simp
    rw [this]
    exact q
theorem op_pe (O : XOk0 X c k) {o : Op} {a : ME} {e : Expr} {pk : Bool} {es : List Expr} (hs : splitOp k o e = some (pk, es)) (ha : ArgsOk c X a es) (hn : pk = false → noNm a = true) : PE X e (tS c ((ME.op o a).fr c.P) (.op o a)) := by
  have c1 : ∀ {fn : Str} {id : String}, call1 k fn e = some (pk, es) → bootBuiltins fn = some (.builtin id) → fn ∈ bnames → fn ≠ "__name__" → (fn == ("__debug__" : Str)) = false → CallR X (.builtin id) (rDn X.K o true) → PE X e (tS c true (.op o a)) := by
    intro fn id h hv hb h1 h2 hc
    unfold call1 at h
    split at h
    · split at h
      · rename_i hg
        cases h
        obtain ⟨rfl, hg2⟩ := isGl_of hg
        exact pe_b O hc hg2 hb hv ha h1 h2
      · cases h
    · cases h
  have c1t : ∀ {fn : Str} {id : String}, call1 k fn e = some (pk, es) → bootBuiltins fn = some (.type id) → fn ∈ bnames → fn ≠ "__name__" → (fn == ("__debug__" : Str)) = false → CallR X (.type id) (rDn X.K o true) → PE X e (tS c true (.op o a)) := by
    intro fn id h hv hb h1 h2 hc
    unfold call1 at h
    split at h
    · split at h
      · rename_i hg
        cases h
        obtain ⟨rfl, hg2⟩ := isGl_of hg
        exact pe_ty O hc hg2 hb hv ha h1 h2
      · cases h
    · cases h
  have c2 : ∀ {fn : Str} {id : String}, call2 k fn e = some (pk, es) → bootBuiltins fn = some (.builtin id) → fn ∈ bnames → fn ≠ "__name__" → (fn == ("__debug__" : Str)) = false → CallR X (.builtin id) (rDn X.K o true) → PE X e (tS c true (.op o a)) := by
    intro fn id h hv hb h1 h2 hc
    unfold call2 at h
    split at h
    · split at h
      · rename_i hg
        cases h
        obtain ⟨rfl, hg2⟩ := isGl_of hg
        exact pe_b O hc hg2 hb hv ha h1 h2
      · cases h
    · cases h
  cases o with
  | tup =>
    unfold splitOp at hs
    dsimp only at hs
    split at hs <;> cases hs
    exact pe_dt O (hn rfl) ha.pa
  | lst =>
    unfold splitOp at hs
    dsimp only at hs
    split at hs <;> cases hs
    exact pe_dl O (hn rfl) ha.pa
  | isi t =>
    unfold splitOp at hs
    dsimp only at hs
    split at hs
    · split at hs
      · rename_i hg
        cases hs
        simp only [Bool.and_eq_true] at hg
        obtain ⟨rfl, g1⟩ := isGl_of hg.1
        obtain ⟨rfl, g2⟩ := isGl_of hg.2
        exact pe_isi O g1 g2 ha
      · cases hs
    · cases hs
  | len => exact c1 hs (by decide +kernel) (by decide +kernel) (by decide) (by decide) cr_len
  | all => exact c1 hs (by decide +kernel) (by decide +kernel) (by decide) (by decide) (cr_all O.g)
  | any => exact c1 hs (by decide +kernel) (by decide +kernel) (by decide) (by decide) (cr_any O.g)
  | repr => exact c1 hs (by decide +kernel) (by decide +kernel) (by decide) (by decide) (cr_repr O.g)
  | toInt => exact c1t hs (by decide +kernel) (by decide +kernel) (by decide) (by decide) cr_int
  | toList => exact c1t hs (by decide +kernel) (by decide +kernel) (by decide) (by decide) cr_list
  | toTuple => exact c1t hs (by decide +kernel) (by decide +kernel) (by decide) (by decide) cr_tuple
  | max2 => exact c2 hs (by decide +kernel) (by decide +kernel) (by decide) (by decide) (cr_max2 O.g)
  | min2 => exact c2 hs (by decide +kernel) (by decide +kernel) (by decide) (by decide) (cr_min2 O.g)
  | eq =>
    unfold splitOp at hs
    dsimp only at hs
    split at hs <;> cases hs
    exact pe_cm O (r2_eq O.g) (nomark _) ha
  | ne =>
    unfold splitOp at hs
    dsimp only at hs
    split at hs <;> cases hs
    exact pe_cm O (r2_ne O.g) (nomark _) ha
  | lt =>
    unfold splitOp at hs
    dsimp only at hs
    split at hs <;> cases hs
    exact pe_cm O r2_lt (nomark _) ha
  | le =>
    unfold splitOp at hs
    dsimp only at hs
    split at hs <;> cases hs
    exact pe_cm O r2_le (nomark _) ha
  | gt =>
    unfold splitOp at hs
    dsimp only at hs
    split at hs <;> cases hs
    exact pe_cm O r2_gt (nomark _) ha
  | ge =>
    unfold splitOp at hs
    dsimp only at hs
    split at hs <;> cases hs
    exact pe_cm O r2_ge (nomark _) ha
  | isin =>
    unfold splitOp at hs
    dsimp only at hs
    split at hs
    · split at hs
      · cases hs
      · rename_i hz
        cases hs
        exact pe_cm O (r2_in O.g) (nomark' _ (by simpa using hz)) ha
    · cases hs
  | notin =>
    unfold splitOp at hs
    dsimp only at hs
    split at hs
    · split at hs
      · cases hs
      · rename_i hz
        cases hs
        exact pe_cm O (r2_notin O.g) (nomark' _ (by simpa using hz)) ha
    · cases hs
  | isN =>
    unfold splitOp at hs
    dsimp only at hs
    split at hs <;> cases hs
    obtain ⟨a1, rfl, h1, p1⟩ := ha.single
    exact peI (is_none r2_isN (nomark _) p1) fun σ H Q q => by_one O.K h1 q
  | notN =>
    unfold splitOp at hs
    dsimp only at hs
    split at hs <;> cases hs
    obtain ⟨a1, rfl, h1, p1⟩ := ha.single
    exact peI (is_none r2_notN (nomark _) p1) fun σ H Q q => by_one O.K h1 q
  | add =>
    unfold splitOp at hs
    dsimp only at hs
    split at hs <;> cases hs
    exact pe_bin O r2_add ha
  | sub =>
    unfold splitOp at hs
    dsimp only at hs
    split at hs <;> cases hs
    exact pe_bin O r2_sub ha
  | mul =>
    unfold splitOp at hs
    dsimp only at hs
    split at hs <;> cases hs
    exact pe_bin O r2_mul ha
  | mod =>
    unfold splitOp at hs
    dsimp only at hs
    split at hs <;> cases hs
    exact pe_bin O r2_mod ha
  | fdiv =>
    unfold splitOp at hs
    dsimp only at hs
    split at hs <;> cases hs
    exact pe_bin O r2_fdiv ha
  | pow =>
    unfold splitOp at hs
    dsimp only at hs
    split at hs <;> cases hs
    exact pe_bin O r2_pow ha
  | neg =>
    unfold splitOp at hs
    dsimp only at hs
    split at hs <;> cases hs
    obtain ⟨a1, rfl, h1, p1⟩ := ha.single
    exact peI (pe_un r1_neg p1) fun σ H Q q => by_one O.K h1 q
  | not_ =>
    unfold splitOp at hs
    dsimp only at hs
    split at hs <;> cases hs
    obtain ⟨a1, rfl, h1, p1⟩ := ha.single
    refine peI (pe_notT p1) fun σ H Q q => (by_one O.K h1 q).imp fun x H1 ⟨G1, d1, d, g1, kv, e2, q⟩ => ?_
    obtain ⟨b, e3, rfl⟩ := ap_not e2
    exact ⟨b, tru_D g1 kv e3, bl_post q⟩
  | ix =>
    unfold splitOp at hs
    dsimp only at hs
    split at hs
    · split at hs
      · rename_i hz
        cases hs
        obtain ⟨a1, a2, rfl, h1, h2, p1, p2⟩ := ha.two
        exact peI (pe_ix ix_D p1 p2 (pix hz)) fun σ H Q q => by_two O.K h1 h2 q
      · cases hs
    · cases hs
  | sl lo hi =>
    unfold splitOp at hs
    dsimp only at hs
    split at hs
    · split at hs
      · rename_i hz
        cases hs
        simp only [Bool.and_eq_true, decide_eq_true_eq, Bool.not_eq_true'] at hz
        exact pe_sl O hz.1.1 hz.1.2 hz.2 ha
      · cases hs
    · cases hs
  | range1 => cases hs
  | range2 => cases hs
  | enum => cases hs
  | slrev => cases hs
/-- comparisons as tests -/
def isCmp : Op → Bool
  | .eq | .ne | .lt | .le | .gt | .ge | .isin | .notin | .isN | .notN => true
  | _ => false
theorem ap_in {a b d : D} (h : ap .isin [a, b] = some d) : ∃ b, d = .bl b := by
  cases b with
  | str t =>
    cases a with
    | str s =>
      have h : (match s.cps.toList with
        | [c] => some (D.bl (decide (c ∈ t.cps.toList)))
        | _ => none) = some d := h
      split at h <;> cases h
      exact ⟨_, rfl⟩
    | _ => cases h
  | lst xs => obtain ⟨_, h⟩ := ite_some h; exact ⟨_, h.symm⟩
  | tup xs => obtain ⟨_, h⟩ := ite_some h; exact ⟨_, h.symm⟩
  | _ => cases h
theorem ap_notin {a b d : D} (h : ap .notin [a, b] = some d) : ∃ b, d = .bl b := by
  cases b with
  | str t =>
    cases a with
    | str s =>
      have h : (match s.cps.toList with
        | [c] => some (D.bl (!decide (c ∈ t.cps.toList)))
        | _ => none) = some d := h
      split at h <;> cases h
      exact ⟨_, rfl⟩
    | _ => cases h
  | lst xs => obtain ⟨_, h⟩ := ite_some h; exact ⟨_, h.symm⟩
  | tup xs => obtain ⟨_, h⟩ := ite_some h; exact ⟨_, h.symm⟩
  | _ => cases h
theorem ap_bl {o : Op} (ho : isCmp o = true) : ∀ ds d, ap o ds = some d → ∃ b, d = .bl b := by
  intro ds d h
  cases o <;> try (exact Bool.noConfusion ho)
  all_goals
    match ds, h with
    | [], h => cases h
    | _ :: _ :: _ :: _, h => cases h
    | [a], h => first | (cases h; done) | (cases h; exact ⟨_, rfl⟩)
    | [a, b], h => first
      | (exact ap_in h)
      | (exact ap_notin h)
      | (cases h; done)
      | (obtain ⟨_, h⟩ := ite_some h; exact ⟨_, h.symm⟩)
      | (cases a <;> first | (cases h; done) | (cases b <;> first | (cases h; done) | (cases h; exact ⟨_, rfl⟩)))
theorem is_noneT {X : Cx} {e : Expr} {ta : TE} {kk : Nat} {pos p2 : Pos} {op : CmpOp} {r : V → Hp → VK → Prop} (ho : OpR X (compareOp op) fun x y H Q => y = .non ∧ r x H Q) (hm : behindInMarks op (.Constant .none kk p2) = false) (h : PE X e ta) : PT X (.Compare e [op] [.Constant .none kk p2] pos) (tTest (tUn r ta)) :=
  ptI (pt_cmpR ho h pe_non hm) fun σ H Q q => by
    refine (show ta σ H fun x H1 => (tC .non) σ H1 fun y H2 => y = .non ∧ r x H2 (fun x H' => ∃ k, x = .bl k ∧ Q k H') from ?_)
    have : (fun x H1 => (tC V.non) σ H1 fun y H2 => y = .non ∧ r x H2 (fun x H' => ∃ k, x = .bl k ∧ Q k H')) = fun x H1 => r x H1 (fun x H' => ∃ k, x = .bl k ∧ Q k H') := by
      funext x H1
      show (V.non = V.non ∧ r x H1 _) = r x H1 _
      simp
    rw [this]
    exact q
theorem op_pt (O : XOk0 X c k) {o : Op} {a : ME} {e : Expr} {pk : Bool} {es : List Expr} (ho : isCmp o = true) (hs : splitOp k o e = some (pk, es)) (ha : ArgsOk c X a es) : PT X e (tT c (.op o a)) := by
  have hb := bl_of_op (c := c) (a := a) (ap_bl ho)
  cases o <;> try (exact Bool.noConfusion ho)
  case isin =>
    unfold splitOp at hs
    dsimp only at hs
    split at hs
    · split at hs
      · cases hs
      · rename_i hz
        cases hs
        exact pt_cm O (r2_in O.g) (nomark' _ (by simpa using hz)) ha hb
    · cases hs
  case notin =>
    unfold splitOp at hs
    dsimp only at hs
    split at hs
    · split at hs
      · cases hs
      · rename_i hz
        cases hs
        exact pt_cm O (r2_notin O.g) (nomark' _ (by simpa using hz)) ha hb
    · cases hs
  case isN =>
    unfold splitOp at hs
    dsimp only at hs
    split at hs <;> cases hs
    obtain ⟨a1, rfl, h1, p1⟩ := ha.single
    exact ptI (is_noneT r2_isN (nomark _) p1) fun σ H Q q => by_one O.K h1 (tT_tS hb q)
  case notN =>
    unfold splitOp at hs
    dsimp only at hs
    split at hs <;> cases hs
    obtain ⟨a1, rfl, h1, p1⟩ := ha.single
    exact ptI (is_noneT r2_notN (nomark _) p1) fun σ H Q q => by_one O.K h1 (tT_tS hb q)
  case eq =>
    unfold splitOp at hs
    dsimp only at hs
    split at hs <;> cases hs
    exact pt_cm O (r2_eq O.g) (nomark _) ha hb
  case ne =>
    unfold splitOp at hs
    dsimp only at hs
    split at hs <;> cases hs
    exact pt_cm O (r2_ne O.g) (nomark _) ha hb
  case lt =>
    unfold splitOp at hs
    dsimp only at hs
    split at hs <;> cases hs
    exact pt_cm O r2_lt (nomark _) ha hb
  case le =>
    unfold splitOp at hs
    dsimp only at hs
    split at hs <;> cases hs
    exact pt_cm O r2_le (nomark _) ha hb
  case gt =>
    unfold splitOp at hs
    dsimp only at hs
    split at hs <;> cases hs
    exact pt_cm O r2_gt (nomark _) ha hb
  case ge =>
    unfold splitOp at hs
    dsimp only at hs
    split at hs <;> cases hs
    exact pt_cm O r2_ge (nomark _) ha hb
end
end VL

/-! VL8: targets; what is walked. -/
namespace VL
open PySem PySem.Spec L2

/-! ### wiped slots -/
theorem wipe_get {σ : L2.St} {i : Nat} : ∀ {vs : List Nat}, (i ∉ vs → (wipe σ vs)[i]? = σ[i]?) ∧ (i ∈ vs → (wipe σ vs)[i]? = if i < σ.length then some none else none)
  | [] => ⟨fun _ => rfl, fun h => absurd h (by simp)⟩
  | v :: vs => by
    obtain ⟨h1, h2⟩ := @wipe_get σ i vs
    refine ⟨fun h => ?_, fun h => ?_⟩
    · rw [List.mem_cons, not_or] at h
      show ((wipe σ vs).set v none)[i]? = _
      rw [List.getElem?_set_ne (Ne.symm h.1)]
      exact h1 h.2
    · show ((wipe σ vs).set v none)[i]? = _
      by_cases z : v = i
      · subst z
        by_cases hl : v < σ.length
        · rw [List.getElem?_set_self (by rw [wipe_length]; exact hl), if_pos hl]
        · rw [List.getElem?_eq_none (by rw [List.length_set, wipe_length]; omega), if_neg hl]
      · rw [List.getElem?_set_ne z]
        rcases List.mem_cons.mp h with e | e
        · exact absurd e.symm z
        · exact h2 e
theorem wipe_set {σ : L2.St} {j : Nat} {x : Option V} {vs : List Nat} (h : j ∈ vs) : wipe (σ.set j x) vs = wipe σ vs := by
  refine List.ext_getElem? fun i => ?_
  by_cases hi : i ∈ vs
  · rw [wipe_get.2 hi, wipe_get.2 hi, List.length_set]
  · rw [wipe_get.1 hi, wipe_get.1 hi, List.getElem?_set_ne]
    rintro rfl
    exact hi h
theorem wipeE_set (r : Env) (v : Nat) : ∀ vs : List Nat, wipeE (r.set v .un) vs = (wipeE r vs).set v .un
  | [] => rfl
  | w :: vs => by
    show wipeE ((r.set v .un).set w .un) vs = (wipeE (r.set w .un) vs).set v .un
    rw [← wipeE_set (r.set w .un) v vs]
    congr 1
    by_cases z : v = w
    · subst z; rfl
    · exact List.set_comm _ _ z
theorem wipeE_out (r : Env) {i : Nat} : ∀ vs : List Nat, i ∉ vs → (wipeE r vs)[i]? = r[i]?
  | [], _ => rfl
  | w :: vs, h => by
    rw [List.mem_cons, not_or] at h
    show (wipeE (r.set w .un) vs)[i]? = _
    rw [wipeE_out _ vs h.2, List.getElem?_set_ne (Ne.symm h.1)]
theorem wipeE_len (r : Env) : ∀ vs : List Nat, (wipeE r vs).length = r.length
  | [] => rfl
  | w :: vs => by
    show (wipeE (r.set w .un) vs).length = _
    rw [wipeE_len _ vs, List.length_set]
theorem backE_get (r0 : Env) {i : Nat} : ∀ (vs : List Nat) (r : Env), r.length = r0.length → (backE r0 r vs).length = r.length ∧ (i ∉ vs → (backE r0 r vs)[i]? = r[i]?) ∧ (i ∈ vs → (backE r0 r vs)[i]? = r0[i]?)
  | [], r, _ => ⟨rfl, fun _ => rfl, fun h => absurd h (by simp)⟩
  | w :: vs, r, hl => by
    show (backE r0 (match r0[w]? with | some x => r.set w x | none => r) vs).length = _ ∧ _
    cases e : r0[w]? with
    | none =>
      obtain ⟨h1, h2, h3⟩ := @backE_get r0 i vs r hl
      refine ⟨h1, fun h => ?_, fun h => ?_⟩
      · rw [List.mem_cons, not_or] at h
        show (backE r0 (match r0[w]? with | some x => r.set w x | none => r) vs)[i]? = _
        rw [e]
        exact h2 h.2
      · show (backE r0 (match r0[w]? with | some x => r.set w x | none => r) vs)[i]? = _
        rw [e]
        by_cases z : i ∈ vs
        · exact h3 z
        · rcases List.mem_cons.mp h with z2 | z2
          · subst z2
            show (backE r0 r vs)[i]? = _
            rw [h2 z, e, List.getElem?_eq_none]
            rw [List.getElem?_eq_none_iff] at e
            omega
          · exact absurd z2 z
    | some x =>
      obtain ⟨h1, h2, h3⟩ := @backE_get r0 i vs (r.set w x) (by rw [List.length_set]; exact hl)
      refine ⟨by rw [h1, List.length_set], fun h => ?_, fun h => ?_⟩
      · rw [List.mem_cons, not_or] at h
        show (backE r0 (match r0[w]? with | some x => r.set w x | none => r) vs)[i]? = _
        rw [e]
        exact (h2 h.2).trans (List.getElem?_set_ne (Ne.symm h.1))
      · show (backE r0 (match r0[w]? with | some x => r.set w x | none => r) vs)[i]? = _
        rw [e]
        by_cases z : i ∈ vs
        · exact h3 z
        · rcases List.mem_cons.mp h with z2 | z2
          · subst z2
            show (backE r0 (r.set i x) vs)[i]? = _
            rw [h2 z, e, List.getElem?_set_self]
            have := (List.getElem?_eq_some_iff.mp e).1
            omega
          · exact absurd z2 z

section
variable {K : PySem.W.Frag} {io : List (Nat × Addr)} {Fr G G' H H' : Hp} {σ : L2.St} {r r1 r2 : Env}
theorem SR.wipe : ∀ {vs : List Nat}, (∀ j ∈ vs, ∀ p ∈ io, p.1 ≠ j) → SR K io Fr G σ H r → SR K io Fr G (wipe σ vs) H (wipeE r vs)
  | [], _, S => S
  | v :: vs, h, S => by
    have S1 := SR.wipe (vs := vs) (fun j hj => h j (List.mem_cons_of_mem _ hj)) S
    show SR K io Fr G ((L2.wipe σ vs).set v none) H (wipeE (r.set v .un) vs)
    rw [wipeE_set]
    exact S1.setUn (h v List.mem_cons_self)
theorem ownFree_at {own : List Nat} (h : ownFree r own = true) {j : Nat} (hj : j ∈ own) : r[j]? = some .un ∨ ∃ d, r[j]? = some (.fz d) := by
  unfold ownFree at h
  have := List.all_eq_true.mp h j hj
  split at this
  · exact .inl (by assumption)
  · exact .inr ⟨_, by assumption⟩
  · cases this
/-- behind a block -/
theorem SR.back {own : List Nat} (S : SR K io Fr G σ H r1) (S' : SR K io Fr G' (L2.wipe σ own) H' (wipeE r2 own)) (g : Same G G') (hio : ∀ j ∈ own, ∀ p ∈ io, p.1 ≠ j) (hf : ownFree r1 own = true) : SR K io Fr G' σ H' (backE r1 r2 own) ∧ ∀ i a, ownAt σ (backE r1 r2 own) i a → ownAt (L2.wipe σ own) (wipeE r2 own) i a := by
  have hl : r2.length = r1.length := by
    have e1 := S'.len
    rw [wipe_length, wipeE_len] at e1
    rw [e1, S.len]
  have hb := fun i => @backE_get r1 i own r2 hl
  have out : ∀ {i a}, ownAt σ (backE r1 r2 own) i a → ownAt (L2.wipe σ own) (wipeE r2 own) i a := fun {i a} q => by
    obtain ⟨h1, d, h2⟩ := q
    by_cases z : i ∈ own
    · rw [(hb i).2.2 z] at h2
      rcases ownFree_at hf z with e | ⟨d', e⟩ <;> rw [e] at h2 <;> rcases h2 with h2 | h2 <;> cases h2
    · rw [(hb i).2.1 z] at h2
      exact ⟨by rw [wipe_get.1 z]; exact h1, d, by rw [wipeE_out _ _ z]; exact h2⟩
  refine ⟨⟨by rw [(hb 0).1, hl, S.len], S'.g, S'.f, fun i x e => ?_, fun i j a q1 q2 => S'.d i j a (out q1) (out q2), fun p hp => ?_⟩, fun i a => out⟩
  · by_cases z : i ∈ own
    · rw [(hb i).2.2 z] at e
      have q := S.s i x e
      rcases ownFree_at hf z with e2 | ⟨d', e2⟩ <;> rw [e2] at e <;> cases e
      · trivial
      · obtain ⟨v, e3, h3⟩ := q
        exact ⟨v, e3, h3.mono g⟩
    · rw [(hb i).2.1 z] at e
      have q := S'.s i x (by rw [wipeE_out _ _ z]; exact e)
      rw [wipe_get.1 z] at q
      exact q
  · obtain ⟨h1, d, h2⟩ := S'.i p hp
    have z : p.1 ∉ own := fun z => hio _ z p hp rfl
    rw [wipe_get.1 z] at h1
    rw [wipeE_out _ _ z] at h2
    rw [(hb p.1).2.1 z]
    exact ⟨h1, d, h2⟩
/-- an object of somebody else's -/
theorem SR.addFr {p : Addr} {o : HO} (S : SR K io Fr G σ H r) (h : H p = some o) (hG : G p = none) (hn : ∀ j, ¬ ownAt σ r j p) : SR K io (upd Fr p o) G σ H r := by
  refine ⟨S.len, S.g, fun a u e => ?_, fun j x e => ?_, S.d, S.i⟩
  · by_cases z : a = p
    · subst z
      rw [upd_same] at e
      cases e
      exact ⟨h, hG⟩
    · rw [upd_ne z] at e
      exact S.f a u e
  · have q := S.s j x e
    cases x with
    | un => trivial
    | fz d => exact q
    | ow d =>
      obtain ⟨a, e1, h1, h2, h3⟩ := q
      have z : a ≠ p := fun z => hn j (by subst z; exact ⟨e1, d, .inl e⟩)
      exact ⟨a, e1, h1, by rw [upd_ne z]; exact h2, h3⟩
    | lk d =>
      obtain ⟨a, e1, h1, h2, h3⟩ := q
      have z : a ≠ p := fun z => hn j (by subst z; exact ⟨e1, d, .inr e⟩)
      exact ⟨a, e1, h1, by rw [upd_ne z]; exact h2, h3⟩
theorem SR.putFr {p : Addr} {o o' : HO} (S : SR K io (upd Fr p o) G σ H r) : SR K io (upd Fr p o') G σ (upd H p o') r := by
  have hp := S.f p o upd_same
  have fr : ∀ {a}, upd Fr p o a = none → a ≠ p ∧ upd Fr p o' a = none := fun {a} e => by
    have z : a ≠ p := fun z => by subst z; rw [upd_same] at e; cases e
    rw [upd_ne z] at e ⊢
    exact ⟨z, e⟩
  refine ⟨S.len, fun a u e => ?_, fun a u e => ?_, fun j x e => ?_, S.d, S.i⟩
  · have z : a ≠ p := fun z => by subst z; rw [hp.2] at e; cases e
    rw [upd_ne z]
    exact S.g a u e
  · by_cases z : a = p
    · subst z
      rw [upd_same] at e
      cases e
      exact ⟨upd_same, hp.2⟩
    · rw [upd_ne z] at e ⊢
      exact S.f a u (by rw [upd_ne z]; exact e)
  · have q := S.s j x e
    cases x with
    | un => trivial
    | fz d => exact q
    | ow d =>
      obtain ⟨a, e1, h1, h2, h3⟩ := q
      obtain ⟨z, h4⟩ := fr h2
      exact ⟨a, e1, h1, h4, h3.heap (upd_ne z)⟩
    | lk d =>
      obtain ⟨a, e1, h1, h2, h3⟩ := q
      obtain ⟨z, h4⟩ := fr h2
      exact ⟨a, e1, h1, h4, h3.heap (upd_ne z)⟩
theorem SR.offFr {p : Addr} {o : HO} (S : SR K io (upd Fr p o) G σ H r) (h : Fr p = none) : SR K io Fr G σ H r ∧ ∀ j, ¬ ownAt σ r j p := by
  have fr : ∀ {a}, upd Fr p o a = none → a ≠ p ∧ Fr a = none := fun {a} e => by
    have z : a ≠ p := fun z => by subst z; rw [upd_same] at e; cases e
    rw [upd_ne z] at e
    exact ⟨z, e⟩
  refine ⟨⟨S.len, S.g, fun a u e => S.f a u ?_, fun j x e => ?_, S.d, S.i⟩, fun j q => (fr (S.ownSlot q).2.1).1 rfl⟩
  · rw [upd_ne (fun z => by subst z; rw [h] at e; cases e)]
    exact e
  · have q := S.s j x e
    cases x with
    | un => trivial
    | fz d => exact q
    | ow d => obtain ⟨a, e1, h1, h2, h3⟩ := q; exact ⟨a, e1, h1, (fr h2).2, h3⟩
    | lk d => obtain ⟨a, e1, h1, h2, h3⟩ := q; exact ⟨a, e1, h1, (fr h2).2, h3⟩
end

/-! ### targets -/
def MG.slots : MG → List Nat
  | .sl j => [j]
  | .nil => []
  | .cons a g => slots a ++ slots g
  | .tup g => slots g
def MG.isL : MG → Bool
  | .nil => true
  | .cons _ _ => true
  | _ => false
def rawOk (k : CkE) (x : Str) : Bool := (match k.raw.lookup x with
  | some .local => true
  | some .cell => true
  | _ => false)
def chkG (k : CkE) : MG → List Expr → Bool
  | .sl j, [.Name x _] => decide (k.N[j]? = some x) && rawOk k x && !k.io.contains j
  | .tup g, [.Tuple es _ _] => g.isL && chkG k g es
  | .nil, [] => true
  | .cons a g, e :: es => !isStar e && !a.isL && g.isL && chkG k a [e] && chkG k g es
  | _, _ => false
theorem rawOk_of {k : CkE} {x : Str} (h : rawOk k x = true) : k.raw.lookup x = some .local ∨ k.raw.lookup x = some .cell := by
  unfold rawOk at h
  split at h
  · exact .inl (by assumption)
  · exact .inr (by assumption)
  · cases h
section
variable {X : Cx} {c : Cfg} {k : CkE}
def TgLaw (c : Cfg) (g : MG) (t : TG) : Prop := ∀ (v : V) (σ : L2.St) (H : Hp) (Q : L2.St → Hp → Prop) (d : D) (r r' : Env) (Fr G : Hp), SR c.K c.io Fr G σ H r → RV c.K G d v → g.bind d r = some r' →
  (∀ σ', SR c.K c.io Fr G σ' H r' → (∀ vs : List Nat, (∀ j ∈ g.slots, j ∈ vs) → wipe σ' vs = wipe σ vs) → Q σ' H) → t v σ H Q
def TgsLaw (c : Cfg) (g : MG) (t : TGs) : Prop := ∀ (vs : List V) (σ : L2.St) (H : Hp) (Q : L2.St → Hp → Prop) (ds : List D) (r r' : Env) (Fr G : Hp), SR c.K c.io Fr G σ H r → RVs c.K G ds vs → MG.bind.binds g ds r = some r' →
  (∀ σ', SR c.K c.io Fr G σ' H r' → (∀ vs : List Nat, (∀ j ∈ g.slots, j ∈ vs) → wipe σ' vs = wipe σ vs) → Q σ' H) → t vs σ H Q
theorem tg_assign : ∀ {g : MG} {es : List Expr} (env : PySem.Env), g.isL = true → chkG k g es = true → (assignEach es env).findIdx? (·.1) = none ∧ (assignEach es env).length = es.length
  | .nil, [], _, _, _ => ⟨rfl, rfl⟩
  | .cons a g, e :: es, env, _, h => by
    unfold chkG at h
    simp only [Bool.and_eq_true, Bool.not_eq_true'] at h
    obtain ⟨⟨⟨⟨h1, h2⟩, h3⟩, h4⟩, h5⟩ := h
    obtain ⟨i1, i2⟩ := tg_assign env h3 h5
    have : assignEach (e :: es) env = (false, assign e env) :: assignEach es env := by
      cases e <;> first | rfl | (exact absurd h1 (by simp [isStar]))
    rw [this]
    refine ⟨?_, by rw [List.length_cons, List.length_cons, i2]⟩
    rw [List.findIdx?_cons, i1]
    rfl
  | .nil, _ :: _, _, _, h => by unfold chkG at h; cases h
  | .cons _ _, [], _, _, h => by unfold chkG at h; cases h
  | .sl _, _, _, h, _ => by cases h
  | .tup _, _, _, h, _ => by cases h
theorem binds_len : ∀ {g : MG} {es : List Expr} {ds : List D} {r r' : Env}, chkG k g es = true → MG.bind.binds g ds r = some r' → ds.length = es.length
  | .nil, [], [], _, _, _, _ => rfl
  | .nil, [], _ :: _, _, _, _, h => by cases h
  | .nil, _ :: _, _, _, _, h, _ => by unfold chkG at h; cases h
  | .cons a g, e :: es, d :: ds, r, r', h, hb => by
    unfold chkG at h
    simp only [Bool.and_eq_true] at h
    have hb : (match MG.bind a d r with
      | some r' => MG.bind.binds g ds r'
      | none => none) = some r' := hb
    split at hb
    · rw [List.length_cons, List.length_cons, binds_len h.2 hb]
    · cases hb
  | .cons _ _, [], _, _, _, h, _ => by unfold chkG at h; cases h
  | .cons _ _, _ :: _, [], _, _, _, h => by cases h
  | .sl _, _, _, _, _, _, h => by cases h
  | .tup _, _, _, _, _, _, h => by cases h
mutual
theorem tg_ok (O : XOk0 X c k) (hio : ∀ p ∈ c.io, p.1 ∈ k.io) : ∀ {g : MG} {e : Expr}, g.isL = false → chkG k g [e] = true → ∃ t, PG X e t ∧ TgLaw c g t
  | .sl j, e, _, h => by
    cases e <;> try (exact absurd h (by unfold chkG; exact Bool.false_ne_true))
    case Name x pos =>
      unfold chkG at h
      simp only [Bool.and_eq_true, decide_eq_true_eq, Bool.not_eq_true'] at h
      obtain ⟨⟨h1, h2⟩, h3⟩ := h
      obtain ⟨q1, q2⟩ := O.raw x (rawOk_of h2)
      refine ⟨_, pg_name (by rw [O.N]; exact O.nd) (by rw [O.N]; exact h1) q1 q2, fun v σ H Q d r r' Fr G S hv hb q => ?_⟩
      cases hb
      refine q _ (S.setFz (fun p hp z => ?_) hv) fun vs hvs => wipe_set (hvs j (by simp [MG.slots]))
      have := hio p hp
      rw [z] at this
      have : k.io.contains j = true := by simpa using this
      rw [h3] at this
      cases this
  | .tup g, e, _, h => by
    cases e <;> try (exact absurd h (by unfold chkG; exact Bool.false_ne_true))
    case Tuple es kk pos =>
      unfold chkG at h
      simp only [Bool.and_eq_true] at h
      obtain ⟨t, p, l⟩ := tgs_ok O hio h.1 h.2
      obtain ⟨a1, a2⟩ := tg_assign X.env h.1 h.2
      refine ⟨_, pg_tup O.g.calm p a2 a1, fun v σ H Q d r r' Fr G S hv hb q => ?_⟩
      cases d <;> try (exact absurd hb (by unfold MG.bind; simp))
      case tup ds =>
        obtain ⟨a, vs, rfl, hq, hr⟩ := hv
        have hb : MG.bind.binds g ds r = some r' := hb
        have hlen := binds_len h.2 hb
        exact ⟨a, vs, rfl, by rw [O.K]; exact SqT.mono S.g hq, by rw [RVs.len hr, hlen], l vs σ H Q ds r r' Fr G S hr hb q⟩
theorem tgs_ok (O : XOk0 X c k) (hio : ∀ p ∈ c.io, p.1 ∈ k.io) : ∀ {g : MG} {es : List Expr}, g.isL = true → chkG k g es = true → ∃ t, PGs X es t ∧ TgsLaw c g t
  | .nil, [], _, _ => ⟨_, pgs_nil, fun vs σ H Q ds r r' Fr G S hv hb q => by
      cases ds with
      | nil =>
        cases hb
        cases (show vs = [] from hv)
        exact ⟨rfl, q σ S fun _ _ => rfl⟩
      | cons _ _ => cases hb⟩
  | .cons a g, e :: es, _, h => by
    unfold chkG at h
    simp only [Bool.and_eq_true, Bool.not_eq_true'] at h
    obtain ⟨⟨⟨⟨h1, h2⟩, h3⟩, h4⟩, h5⟩ := h
    obtain ⟨t1, p1, l1⟩ := tg_ok O hio h2 h4
    obtain ⟨t2, p2, l2⟩ := tgs_ok O hio h3 h5
    refine ⟨_, pgs_cons p1 p2 (by cases e <;> first | rfl | (exact absurd h1 (by simp [isStar]))), fun vs σ H Q ds r r' Fr G S hv hb q => ?_⟩
    cases ds with
    | nil => cases hb
    | cons d ds =>
      obtain ⟨v, vr, rfl, hv1, hv2⟩ := hv
      have hb : (match MG.bind a d r with
        | some r' => MG.bind.binds g ds r'
        | none => none) = some r' := hb
      cases e1 : MG.bind a d r with
      | none => rw [e1] at hb; cases hb
      | some rr =>
        rw [e1] at hb
        refine ⟨v, vr, rfl, l1 v σ H _ d r rr Fr G S hv1 e1 fun σ' S' w' => l2 vr σ' H Q ds rr r' Fr G S' hv2 hb fun σ2 S2 w2 => q σ2 S2 fun vs hvs => ?_⟩
        rw [w2 vs fun j hj => hvs j (by simp [MG.slots, hj]), w' vs fun j hj => hvs j (by simp [MG.slots, hj])]
  | .nil, _ :: _, _, h => by unfold chkG at h; cases h
  | .cons _ _, [], _, h => by unfold chkG at h; cases h
  | .sl _, _, h, _ => by cases h
  | .tup _, _, h, _ => by cases h
end
/-- a target's reading, whatever the context -/
def tgT (c : Cfg) (g : MG) : TG := fun v σ H Q => ∃ (d : D) (r r' : Env) (Fr G : Hp), SR c.K c.io Fr G σ H r ∧ RV c.K G d v ∧ g.bind d r = some r' ∧
  ∀ σ', SR c.K c.io Fr G σ' H r' → (∀ vs : List Nat, (∀ j ∈ g.slots, j ∈ vs) → wipe σ' vs = wipe σ vs) → Q σ' H
theorem pg_T (O : XOk0 X c k) {g : MG} {e : Expr} (h1 : g.isL = false) (h2 : chkG k g [e] = true) : PG X e (tgT c g) := by
  obtain ⟨t, p, l⟩ := tg_ok O O.io h1 h2
  exact ⟨fun pins s σ H v u Q I rv ⟨d, r, r', Fr, G, S, hv, hb, q⟩ => p.run pins s σ H v u Q I rv (l v σ H Q d r r' Fr G S hv hb q)⟩
end
end VL

/-! VL9: what a loop walks. -/
namespace VL
open PySem PySem.Spec L2
/-- at turn i it gives the i-th of xs, all of it in G, or a new pair of what lies in G -/
def YD (K : PySem.W.Frag) (G : Hp) (xs : List D) : Nat → Hp → V → Hp → Prop := fun i H v H' => ∃ d, xs[i]? = some d ∧
  ((H' = H ∧ RV K G d v) ∨ ∃ (T : Addr) (x y : V) (d1 d2 : D), v = .ref T ∧ H T = none ∧ H' = upd H T (.tup [x, y]) ∧ d = .tup [d1, d2] ∧ RV K G d1 x ∧ RV K G d2 y)
def WalkD (K : PySem.W.Frag) (G : Hp) (J : It) (xs : List D) : Prop := Walk J xs.length (Same G) (YD K G xs)
def tI (c : Cfg) (it : ME) : TI := fun σ H R => ∃ (Fr G : Hp) (r : Env), SR c.K c.io Fr G σ H r ∧ Res c Fr G σ (evl c it r) fun ds r1 => ∃ x xs, ds = [x] ∧ itemsD x = some xs ∧
  ∀ (J : It) (G1 H1 : Hp), SR c.K c.io Fr G1 σ H1 r1 → Same G G1 → WalkD c.K G1 J xs → R J H1
/-- something walkable -/
def Src (c : Cfg) (X : Cx) (tg e : Expr) (it : ME) : Prop := ∃ wi, PI X tg e wi ∧ ∀ σ H R, tI c it σ H R → wi σ H R
section
variable {X : Cx} {c : Cfg} {k : CkE} {Fr G G' H H' : Hp} {σ : L2.St} {r : Env}
theorem SR.yield {io : List (Nat × Addr)} {K : PySem.W.Frag} {G1 : Hp} {xs : List D} {i : Nat} {v : V} (S : SR K io Fr G σ H r) (g : Same G1 G) (y : YD K G1 xs i H v H') : ∃ G' d, xs[i]? = some d ∧ Same G G' ∧ SR K io Fr G' σ H' r ∧ RV K G' d v := by
  obtain ⟨d, e, h | h⟩ := y
  · obtain ⟨rfl, h⟩ := h
    exact ⟨G, d, e, Same.refl _, S, h.mono g⟩
  · obtain ⟨T, x, z, d1, d2, rfl, hT, rfl, rfl, h1, h2⟩ := h
    have gN : Same G (upd G T (.tup [x, z])) := same_upd (S.none_g hT)
    exact ⟨_, _, e, gN, S.new hT, T, _, rfl, SqT.of upd_same, RVs.cons ((h1.mono g).mono gN) (RVs.one ((h2.mono g).mono gN))⟩
theorem yd_at {K : PySem.W.Frag} {xs : List D} {vs : List V} (h : RVs K G xs vs) {i : Nat} {x : V} (y : H' = H ∧ vs[i]? = some x) : YD K G xs i H x H' := by
  obtain ⟨d, e, q⟩ := RVs.getV h y.2
  exact ⟨d, e, .inl ⟨y.1, q⟩⟩
/-- a list, a tuple, a text: whichever it is -/
def iAny (K : PySem.W.Frag) (te : TE) : TI := fun σ H R => te σ H fun x H1 => (∃ a, x = .ref a ∧ (∃ xs, SqL K H1 a xs) ∧ R (Itl K a) H1) ∨ (∃ a, x = .ref a ∧ (∃ xs, SqT K H1 a xs) ∧ R (Itt K a) H1) ∨ ∃ z, x = .str z ∧ R (Its z) H1
theorem pi_any {tg e : Expr} {te : TE} (he : PE X e te) : PI X tg e (iAny X.K te) := by
  constructor
  intro pins s σ H R I h
  refine thn (he.run pins s σ H _ I h) ?_
  rintro v s1 ⟨x, H1, I1, r1, q1⟩
  have fin : ∀ {o : Obj} {J : It} {tn : Nat → Heap → Prop}, Turn X.prog X.w X.K tg J [s1.heap.objs.size] s1.heap.objs.size tn → tn 0 (s1.heap.push o) → R J H1 → PIE X pins σ tg R (.ref s1.heap.objs.size) { s1 with heap := s1.heap.push o } := fun {o J tn} T ht q =>
    ⟨s1.heap.objs.size, [s1.heap.objs.size], tn, J, H1, rfl, I1.kept (t' := s1.toks) (fun b o e => Heap.get?_push_of_some _ e), T, ht, fun b hb => by
      obtain rfl : b = s1.heap.objs.size := by simpa using hb
      exact I1.fpOk (Nat.le_refl _) I1.fresh, q⟩
  rcases q1 with ⟨a, rfl, ⟨xs, hq⟩, q⟩ | ⟨a, rfl, ⟨xs, hq⟩, q⟩ | ⟨z, rfl, q⟩
  · cases r1
    obtain ⟨its, rv, p, hz⟩ := I1.list hq
    exact wpAny_pyIter_list p.isList (fin (turn_list a _) ⟨_, Heap.get?_push_size _ rfl, rfl, rfl⟩ q)
  · cases r1
    obtain ⟨its, rv, p, hz⟩ := I1.tuple hq
    exact wpAny_pyIter_tuple (show s1.heap.IsTuple a its.toArray from p) (fin (turn_tuple a _) ⟨_, Heap.get?_push_size _ rfl, rfl, rfl⟩ q)
  · obtain ⟨t, rfl⟩ := r1
    cases ha : z.cps.all (· < 128)
    · exact wpAny_pyIter_wide ha (fin (turn_str _ z t "str_iterator" (.inr rfl)) ⟨_, Heap.get?_push_size _ rfl, rfl, rfl⟩ q)
    · exact wpAny_pyIter_ascii ha (fin (turn_str _ z t "str_ascii_iterator" (.inl rfl)) ⟨_, Heap.get?_push_size _ rfl, rfl, rfl⟩ q)
theorem SqL.mono {K : PySem.W.Frag} {a : Addr} {xs : List V} (g : Same G G') (h : SqL K G a xs) : SqL K G' a xs := g.seq h
theorem src_any (O : XOk0 X c k) {tg e : Expr} {it : ME} (h : PE X e (tS c false it)) : Src c X tg e it := by
  refine ⟨_, pi_any h, fun σ H R q => ?_⟩
  obtain ⟨Fr, G, r, S, q⟩ := q
  refine ⟨Fr, G, r, S, q.mono fun ds r1 ⟨x, xs, e, e2, q⟩ => ⟨x, e, fun v H' G' S' g s => ?_⟩⟩
  have rv : RV c.K G' x v := s
  have hs := S'.g
  cases x <;> try (cases e2; done)
  case str z =>
    cases (show v = .str z from rv)
    cases e2
    refine .inr (.inr ⟨z, rfl, q _ _ _ S' g ?_⟩)
    have hl : (z.cps.toList.map chr1).length = z.cps.size := by simp
    unfold WalkD
    rw [hl]
    exact (walk_str (z := z)).mono (fun _ _ => trivial) fun i H x H' hi _ ⟨y1, ch, y2, y3⟩ => ⟨chr1 ch, by rw [List.getElem?_map, Array.getElem?_toList, y2]; rfl, .inl ⟨y1, by rw [y3]; rfl⟩⟩
  case tup ds =>
    obtain ⟨a, vs, rfl, hq, hr⟩ := rv
    cases e2
    refine .inr (.inl ⟨a, rfl, ⟨vs, by rw [O.K]; exact SqT.mono hs hq⟩, q _ _ _ S' g ?_⟩)
    unfold WalkD
    rw [← RVs.len hr]
    exact (walk_tup (K := X.K) (a := a) (xs := vs)).mono (fun H gH => by rw [O.K]; exact SqT.mono gH hq) fun i H x H' hi _ y => yd_at hr y
  case lst ds =>
    obtain ⟨a, vs, rfl, hq, hr⟩ := rv
    cases e2
    refine .inl ⟨a, rfl, ⟨vs, by rw [O.K]; exact SqL.mono hs hq⟩, q _ _ _ S' g ?_⟩
    unfold WalkD
    rw [← RVs.len hr]
    exact (walk_list (K := X.K) (a := a) (xs := vs)).mono (fun H gH => by rw [O.K]; exact SqL.mono gH hq) fun i H x H' hi _ y => yd_at hr y
theorem iota_len : ∀ (n : Nat) (lo : Int), (iota lo n).length = n
  | 0, _ => rfl
  | n + 1, lo => by show (iota (lo + 1) n).length + 1 = _; rw [iota_len n]
theorem iota_get : ∀ (n : Nat) (lo : Int) (i : Nat), i < n → (iota lo n)[i]? = some (.int (lo + i))
  | n + 1, lo, 0, _ => by show some (D.int lo) = _; simp
  | n + 1, lo, i + 1, h => by
    show (iota (lo + 1) n)[i]? = _
    rw [iota_get n (lo + 1) i (by omega)]
    congr 2
    push_cast
    omega
theorem walk_iota {K : PySem.W.Frag} {lo : Int} {n : Nat} : WalkD K G (Itr lo n) (iota lo n) := by
  unfold WalkD
  rw [iota_len]
  exact walk_range.mono (fun _ _ => trivial) fun i H x H' hi _ ⟨y1, y2⟩ => ⟨_, iota_get n lo i hi, .inl ⟨y1, y2⟩⟩
theorem enumD_get : ∀ (xs : List D) (m i : Nat), (enumD m xs)[i]? = (xs[i]?).map fun d => .tup [.int ((m + i : Nat) : Int), d]
  | [], _, _ => by simp [enumD]
  | x :: xs, m, 0 => by simp [enumD]
  | x :: xs, m, i + 1 => by
    show (enumD (m + 1) xs)[i]? = _
    rw [enumD_get xs (m + 1) i, List.getElem?_cons_succ, show m + 1 + i = m + (i + 1) by omega]
theorem enumD_len : ∀ (xs : List D) (m : Nat), (enumD m xs).length = xs.length
  | [], _ => rfl
  | x :: xs, m => by show (enumD (m + 1) xs).length + 1 = _; rw [enumD_len xs, List.length_cons]
theorem src_range1 (O : XOk0 X c k) {tg e : Expr} {a : ME} {p pos : Pos} (hg : k.names.lookup ("range" : Str) = some .globalImplicit) (ha : ArgsOk c X a [e]) : Src c X tg (.Call (.Name "range" p) [e] [] pos) (.op .range1 a) := by
  obtain ⟨a1, rfl, h1, p1⟩ := ha.single
  refine ⟨_, pi_range1 (O.gl0 hg) (O.bt _ (by decide +kernel)) ha.pa (ha.2.2.1 _), fun σ H R q => ?_⟩
  obtain ⟨Fr, G, r, S, q⟩ := q
  refine ⟨Fr, G, r, S, (op_res q).mono fun ds r1 ⟨ds', d, e1, e2, x, xs, e3, e4, q⟩ vs H1 G1 S1 g1 av => ?_⟩
  cases e3
  have kv := APs.fresh S1 av e1
  match ds', kv, e2 with
  | [.int n], kv, e2 =>
    obtain ⟨v, ev, q1⟩ := VWs.one kv
    cases ev
    have e2 : (if rngOk n then some (D.lst (iota 0 n.toNat)) else none) = some d := e2
    obtain ⟨hr, rfl⟩ := ite_some e2
    cases e4
    unfold rngOk at hr
    simp only [Bool.and_eq_true, decide_eq_true_eq] at hr
    exact ⟨n, by rw [q1.int], hr.1, hr.2, q _ _ _ S1 g1 walk_iota⟩
  | [.non], _, e2 | [.bl _], _, e2 | [.str _], _, e2 | [.tup _], _, e2 | [.lst _], _, e2 | [.dct _], _, e2 => cases e2
  | [], kv, e2 => cases e2
  | [a, b], kv, e2 => cases e2
  | a :: b :: z :: _, kv, e2 => cases e2
theorem src_range2 (O : XOk0 X c k) {tg e f : Expr} {a : ME} {p pos : Pos} (hg : k.names.lookup ("range" : Str) = some .globalImplicit) (ha : ArgsOk c X a [e, f]) : Src c X tg (.Call (.Name "range" p) [e, f] [] pos) (.op .range2 a) := by
  have hs2 : starEach [f] X.env = [(false, eval f X.env)] := by
    obtain ⟨a1, a2, rfl, h1, h2, p1, p2⟩ := ha.two
    exact ha.2.2.2.2.2.1 _
  have hs1 : starEach [e, f] X.env = [(false, eval e X.env), (false, eval f X.env)] := by
    obtain ⟨a1, a2, rfl, h1, h2, p1, p2⟩ := ha.two
    rw [ha.2.2.1, hs2]
  refine ⟨_, pi_range2 (O.gl0 hg) (O.bt _ (by decide +kernel)) ha.pa hs1 hs2, fun σ H R q => ?_⟩
  obtain ⟨Fr, G, r, S, q⟩ := q
  refine ⟨Fr, G, r, S, (op_res q).mono fun ds r1 ⟨ds', d, e1, e2, x, xs, e3, e4, q⟩ vs H1 G1 S1 g1 av => ?_⟩
  cases e3
  have kv := APs.fresh S1 av e1
  match ds', kv, e2 with
  | [.int m, .int n], kv, e2 =>
    obtain ⟨v, w, ev, q1, q2⟩ := VWs.two kv
    cases ev
    have e2 : (if rngOk m && rngOk n then some (D.lst (iota m (n - m).toNat)) else none) = some d := e2
    obtain ⟨hr, rfl⟩ := ite_some e2
    cases e4
    unfold rngOk at hr
    simp only [Bool.and_eq_true, decide_eq_true_eq] at hr
    exact ⟨m, n, by rw [q1.int, q2.int], ⟨hr.1.1, hr.1.2, hr.2.1, hr.2.2⟩, q _ _ _ S1 g1 walk_iota⟩
  | [], kv, e2 => cases e2
  | [_], kv, e2 => cases e2
  | a :: b :: z :: _, kv, e2 => cases e2
  | [.non, _], _, e2 | [.bl _, _], _, e2 | [.str _, _], _, e2 | [.tup _, _], _, e2 | [.lst _, _], _, e2 | [.dct _, _], _, e2 => cases e2
  | [.int _, .non], _, e2 | [.int _, .bl _], _, e2 | [.int _, .str _], _, e2 | [.int _, .tup _], _, e2 | [.int _, .lst _], _, e2 | [.int _, .dct _], _, e2 => cases e2
theorem src_enum (O : XOk0 X c k) {e : Expr} {a : ME} {p pos tpos : Pos} {elts : List Expr} {kk : Nat} (hg : k.names.lookup ("enumerate" : Str) = some .globalImplicit) (hn : noNm a = true) (ha : ArgsOk c X a [e]) : Src c X (.Tuple elts kk tpos) (.Call (.Name "enumerate" p) [e] [] pos) (.op .enum a) := by
  refine ⟨_, pi_enum (O.gl0 hg) (O.bt _ (by decide +kernel)) ha.pa (by obtain ⟨a1, rfl, h1, p1⟩ := ha.single; exact ha.2.2.1 _), fun σ H R q => ?_⟩
  obtain ⟨Fr, G, r, S, q⟩ := q
  refine ⟨Fr, G, r, S, (op_res q).mono fun ds r1 ⟨ds', d, e1, e2, x, xs, e3, e4, q⟩ vs H1 G1 S1 g1 av => ?_⟩
  cases e3
  have q1 := APs.rvs hn av
  have e5 : ds' = ds := fresh_same hn e1
  subst e5
  match ds', q1, e2 with
  | [.lst zs], q1, e2 =>
    obtain ⟨v, vr, rfl, hv, hvr⟩ := q1
    cases (show vr = [] from hvr)
    obtain ⟨b, ws, rfl, hq, hr⟩ := hv
    cases e2
    cases e4
    refine ⟨b, ws, rfl, by rw [O.K]; exact SqL.mono S1.g hq, q _ _ _ S1 g1 ?_⟩
    unfold WalkD
    rw [enumD_len, ← RVs.len hr]
    refine (walk_enum (K := X.K) (a := b) (xs := ws)).mono (fun H gH => by rw [O.K]; exact SqL.mono gH hq) fun i H x H' hi gH ⟨T, y, z, y1, y2, y3, y4, y5⟩ => ?_
    cases y4
    obtain ⟨d, ed, rd⟩ := RVs.getV hr y5
    exact ⟨.tup [.int ((0 + i : Nat) : Int), d], by rw [enumD_get, ed]; rfl, .inr ⟨T, _, z, _, _, y1, y2, y3, rfl, by rw [Nat.zero_add]; rfl, rd⟩⟩
  | [], _, e2 => cases e2
  | [.non], _, e2 | [.bl _], _, e2 | [.str _], _, e2 | [.tup _], _, e2 | [.int _], _, e2 | [.dct _], _, e2 => cases e2
  | [a, b], kv, e2 => cases e2
  | a :: b :: z :: _, kv, e2 => cases e2
end
end VL

/-! VL10: what a def promises; its call. -/
namespace VL
open PySem PySem.Spec L2

/-- as FnOk, where no repr is under way -/
structure FnG (P : Program) (w : World) (K : PySem.W.Frag) (mg : Str → Option Value) (base : Heap) (cx : CXT) (k : Nat) (f : Addr) (fd : FuncData) (ps : List Str) (sp : Sp) : Prop where
  len : ∀ vs H Q E, sp vs H Q E → vs.length = ps.length
  run : ∀ (A : Around) (outer : List PySem.Env) (s : Shared) (H : Hp) (args : Args) (us : List Value) (vs : List V) (Q : VK) (E : XK), Room k A → A.guards = some [] → Env0 P w K mg base A outer s H →
    BindsTo s fd args (ps.zip us) → Vals vs us → sp vs H Q E → codeAny (model P w) A (.call (.ref f) args) (L2.CR cx outer P w H s Q E) s

def ArgR (K : PySem.W.Frag) (Fr G H : Hp) : List Bool → List D → List V → Prop
  | [], ds, vs => ds = [] ∧ vs = []
  | true :: bs, ds, vs => ∃ d dr a vr, ds = d :: dr ∧ vs = .ref a :: vr ∧ OV K G H d a ∧ G a = none ∧ Fr a = none ∧ ArgR K Fr G H bs dr vr
  | false :: bs, ds, vs => ∃ d dr v vr, ds = d :: dr ∧ vs = v :: vr ∧ RV K G d v ∧ ArgR K Fr G H bs dr vr
def ioA : List Bool → List V → List Addr
  | true :: bs, .ref a :: vs => a :: ioA bs vs
  | false :: bs, _ :: vs => ioA bs vs
  | _, _ => []
def OutR (K : PySem.W.Frag) (G H : Hp) : List Addr → List D → Prop
  | [], ds => ds = []
  | a :: as, ds => ∃ d dr, ds = d :: dr ∧ OV K G H d a ∧ G a = none ∧ OutR K G H as dr
def ResV (K : PySem.W.Frag) (rf : Bool) (Fr G H : Hp) (as : List Addr) (d : D) (v : V) : Prop :=
  if (rf && d.mutb) = true then ∃ a, v = .ref a ∧ OV K G H d a ∧ G a = none ∧ Fr a = none ∧ a ∉ as else RV K G d v
structure Kept (Fr G G' H' : Hp) : Prop where
  g : Same G G'
  h : Same G' H'
  f : ∀ a o, Fr a = some o → H' a = some o ∧ G' a = none
def spG (c : Cfg) (io : List Bool) (rf : Bool) (run : List D → VL.CR) : Sp := fun vs H Q E => ∃ (Fr G : Hp) (ds : List D), Same G H ∧ (∀ a o, Fr a = some o → H a = some o ∧ G a = none) ∧ ArgR c.K Fr G H io ds vs ∧ (ioA io vs).Nodup ∧
  match run ds with
  | .ok d outs => ∀ (v : V) (H' G' : Hp), Kept Fr G G' H' → OutR c.K G' H' (ioA io vs) outs → ResV c.K rf Fr G' H' (ioA io vs) d v → Q v H'
  | .err n fs outs => ∀ (H' G' : Hp) (dx : Option Addr), Kept Fr G G' H' → OutR c.K G' H' (ioA io vs) outs → XR c n fs dx G' H' → E (.ref (c.C n)) dx H'
  | .stk => False
theorem ArgR.lens {K : PySem.W.Frag} {Fr G H : Hp} : ∀ {io : List Bool} {ds : List D} {vs : List V}, ArgR K Fr G H io ds vs → vs.length = io.length ∧ ds.length = io.length
  | [], _, _, ⟨h1, h2⟩ => by subst h1 h2; exact ⟨rfl, rfl⟩
  | true :: bs, _, _, ⟨d, dr, a, vr, e1, e2, _, _, _, h⟩ => by
    subst e1 e2
    obtain ⟨h1, h2⟩ := ArgR.lens h
    exact ⟨by simp [h1], by simp [h2]⟩
  | false :: bs, _, _, ⟨d, dr, v, vr, e1, e2, _, h⟩ => by
    subst e1 e2
    obtain ⟨h1, h2⟩ := ArgR.lens h
    exact ⟨by simp [h1], by simp [h2]⟩

/-- the slots handed to a callee as its own -/
def ioSl : List Bool → ME → Option (List Nat)
  | [], .nil => some []
  | true :: bs, .cons (.nm j) m => (ioSl bs m).map (j :: ·)
  | false :: bs, .cons a m => if isNm a then none else ioSl bs m
  | _, _ => none
def SlA (σ : L2.St) : List Nat → List Addr → Prop
  | [], as => as = []
  | j :: js, as => ∃ a r, as = a :: r ∧ σ[j]? = some (some (.ref a)) ∧ SlA σ js r
open Classical in
noncomputable def frOf (Fr : Hp) (σ : L2.St) (r : Env) (sl : List Nat) (H : Hp) : Hp := fun a => if (Fr a).isSome = true then Fr a else if ∃ j, ownAt σ r j a ∧ j ∉ sl then H a else none
section
variable {c : Cfg} {Fr G G' H H' : Hp} {σ : L2.St} {r r2 : Env} {sl : List Nat}
theorem frOf_fr {a : Addr} {o : HO} (h : Fr a = some o) : frOf Fr σ r sl H a = some o := by
  unfold frOf
  rw [if_pos (by rw [h]; rfl), h]
theorem frOf_own {a : Addr} {j : Nat} (h : Fr a = none) (q : ownAt σ r j a) (hj : j ∉ sl) : frOf Fr σ r sl H a = H a := by
  unfold frOf
  rw [if_neg (by rw [h]; exact Bool.false_ne_true), if_pos ⟨j, q, hj⟩]
theorem frOf_inv {a : Addr} {o : HO} (h : frOf Fr σ r sl H a = some o) : Fr a = some o ∨ (H a = some o ∧ ∃ j, ownAt σ r j a ∧ j ∉ sl) := by
  unfold frOf at h
  split at h
  · exact .inl h
  · split at h
    · exact .inr ⟨h, by assumption⟩
    · cases h
theorem frOf_in (S : SR c.K c.io Fr G σ H r) {a : Addr} {j : Nat} (q : ownAt σ r j a) (hj : j ∈ sl) : frOf Fr σ r sl H a = none := by
  cases e : frOf Fr σ r sl H a with
  | none => rfl
  | some o =>
    rcases frOf_inv e with h | ⟨_, i, q', hi⟩
    · rw [(S.ownSlot q).2.1] at h; cases h
    · exact absurd hj (by rw [S.d j i a q q']; exact hi)
theorem setOw_spec : ∀ {js : List Nat} {ds : List D} {r r2 : Env}, setOw r js ds = some r2 → js.Nodup → r2.length = r.length ∧ (∀ i, i ∉ js → r2[i]? = r[i]?) ∧ (∀ i ∈ js, ∃ d, r[i]? = some (.ow d)) ∧ (∀ p ∈ js.zip ds, r2[p.1]? = some (.ow p.2)) ∧ js.length = ds.length
  | [], [], r, r2, h, _ => by cases h; exact ⟨rfl, fun _ _ => rfl, fun _ h => absurd h (by simp), fun _ h => absurd h (by simp), rfl⟩
  | [], _ :: _, _, _, h, _ => by cases h
  | _ :: _, [], _, _, h, _ => by cases h
  | j :: js, d :: ds, r, r2, h, nd => by
    have h : (match r[j]? with
      | some (.ow _) => setOw (r.set j (.ow d)) js ds
      | _ => none) = some r2 := h
    split at h
    · rename_i d0 e0
      obtain ⟨n1, n2⟩ := List.nodup_cons.mp nd
      obtain ⟨h1, h2, h3, h4, h5⟩ := setOw_spec h n2
      have lj := (List.getElem?_eq_some_iff.mp e0).1
      refine ⟨by rw [h1, List.length_set], fun i hi => ?_, fun i hi => ?_, fun p hp => ?_, by simp [h5]⟩
      · rw [List.mem_cons, not_or] at hi
        rw [h2 i hi.2, List.getElem?_set_ne (Ne.symm hi.1)]
      · rcases List.mem_cons.mp hi with rfl | hi
        · exact ⟨_, e0⟩
        · obtain ⟨d1, e1⟩ := h3 i hi
          rw [List.getElem?_set_ne (fun z => n1 (by rw [z]; exact hi))] at e1
          exact ⟨d1, e1⟩
      · rw [List.zip_cons_cons] at hp
        rcases List.mem_cons.mp hp with rfl | hp
        · show r2[j]? = _
          rw [h2 j n1, List.getElem?_set_self lj]
        · exact h4 p hp
    · cases h
theorem outs_at {K : PySem.W.Frag} : ∀ {sl : List Nat} {as : List Addr} {outs : List D}, SlA σ sl as → OutR K G H as outs → (∀ p ∈ sl.zip outs, r2[p.1]? = some (.ow p.2)) → ∀ j ∈ sl, ∃ a d, σ[j]? = some (some (.ref a)) ∧ a ∈ as ∧ r2[j]? = some (.ow d) ∧ OV K G H d a ∧ G a = none
  | [], _, _, _, _, _ => fun _ h => absurd h (by simp)
  | j :: js, _, _, ⟨a, ar, e1, h1, h2⟩, q, z => by
    subst e1
    obtain ⟨d, dr, rfl, q1, q2, q3⟩ := q
    intro i hi
    rcases List.mem_cons.mp hi with rfl | hi
    · exact ⟨a, d, h1, List.mem_cons_self, z (i, d) (by rw [List.zip_cons_cons]; exact List.mem_cons_self), q1, q2⟩
    · obtain ⟨b, e, k1, k2, k3⟩ := outs_at h2 q3 (fun p hp => z p (by rw [List.zip_cons_cons]; exact List.mem_cons_of_mem _ hp)) i hi
      exact ⟨b, e, k1, List.mem_cons_of_mem _ k2, k3⟩
theorem SlA.mem : ∀ {sl : List Nat} {as : List Addr}, SlA σ sl as → ∀ a ∈ as, ∃ j ∈ sl, σ[j]? = some (some (.ref a))
  | [], _, h => fun a ha => by rw [show _ = [] from h] at ha; exact absurd ha (by simp)
  | j :: js, _, ⟨b, ar, e1, h1, h2⟩ => fun a ha => by
    subst e1
    rcases List.mem_cons.mp ha with rfl | ha
    · exact ⟨j, List.mem_cons_self, h1⟩
    · obtain ⟨i, hi, e⟩ := SlA.mem h2 a ha
      exact ⟨i, List.mem_cons_of_mem _ hi, e⟩
theorem SlA.nodup (S : SR c.K c.io Fr G σ H r) : ∀ {sl : List Nat} {as : List Addr}, SlA σ sl as → sl.Nodup → (∀ i ∈ sl, ∃ d, r[i]? = some (.ow d)) → as.Nodup
  | [], _, h, _, _ => by rw [show _ = [] from h]; exact List.nodup_nil
  | j :: js, _, ⟨b, ar, e1, h1, h2⟩, nd, ho => by
    subst e1
    obtain ⟨n1, n2⟩ := List.nodup_cons.mp nd
    refine List.nodup_cons.mpr ⟨fun hb => ?_, SlA.nodup S h2 n2 fun i hi => ho i (List.mem_cons_of_mem _ hi)⟩
    obtain ⟨i, hi, e⟩ := SlA.mem h2 b hb
    obtain ⟨d1, e1⟩ := ho j List.mem_cons_self
    obtain ⟨d2, e2⟩ := ho i (List.mem_cons_of_mem _ hi)
    have : j = i := S.d j i b ⟨h1, d1, .inl e1⟩ ⟨e, d2, .inl e2⟩
    exact n1 (by rw [this]; exact hi)
theorem call_args (S : SR c.K c.io Fr G σ H r) (hsl : ∀ i ∈ sl, ∃ d, r[i]? = some (.ow d)) : ∀ {io : List Bool} {a : ME} {sl' : List Nat} {ds ds' : List D} {vs : List V}, ioSl io a = some sl' → (∀ j ∈ sl', j ∈ sl) → APs c.K G σ a ds vs → a.fresh ds r = some ds' →
    ArgR c.K (frOf Fr σ r sl H) G H io ds' vs ∧ SlA σ sl' (ioA io vs)
  | [], a, sl', ds, ds', vs, h, _, q, f => by
    cases a <;> try (cases h; done)
    cases h
    obtain ⟨rfl, rfl⟩ := q
    cases f
    exact ⟨⟨rfl, rfl⟩, rfl⟩
  | true :: bs, a, sl', ds, ds', vs, h, hm, q, f => by
    cases a <;> try (cases h; done)
    rename_i a m
    cases a <;> try (cases h; done)
    rename_i j
    have h : (ioSl bs m).map (j :: ·) = some sl' := h
    cases e : ioSl bs m with
    | none => rw [e] at h; cases h
    | some sr =>
      rw [e] at h
      cases h
      cases ds with
      | nil => exact q.elim
      | cons d0 ds =>
        cases vs with
        | nil => exact q.elim
        | cons v vs =>
          obtain ⟨q1, q2⟩ := q
          obtain ⟨d, hd⟩ := hsl j (hm j List.mem_cons_self)
          have pk : peek r j = some d := by unfold peek; rw [hd]
          have f : (match peek r j, m.fresh ds r with
            | some d, some l => some (d :: l)
            | _, _ => none) = some ds' := f
          rw [pk] at f
          cases e2 : m.fresh ds r with
          | none => rw [e2] at f; cases f
          | some l =>
            rw [e2] at f
            cases f
            obtain ⟨k1, k2⟩ := call_args S hsl e (fun i hi => hm i (List.mem_cons_of_mem _ hi)) q2 e2
            obtain ⟨b, e3, g1, g2, g3⟩ := S.s j _ hd
            rw [q1] at e3
            cases e3
            have hoa : ownAt σ r j b := ⟨q1, d, .inl hd⟩
            exact ⟨⟨d, l, b, vs, rfl, rfl, g3, g1, frOf_in S hoa (hm j List.mem_cons_self), k1⟩, b, _, rfl, q1, k2⟩
  | false :: bs, a, sl', ds, ds', vs, h, hm, q, f => by
    cases a <;> try (cases h; done)
    rename_i a m
    have h : (if isNm a then none else ioSl bs m) = some sl' := h
    split at h
    · cases h
    · rename_i hn
      have hn : isNm a = false := by simpa using hn
      cases ds with
      | nil => cases a <;> exact q.elim
      | cons d ds =>
        cases vs with
        | nil => cases a <;> exact q.elim
        | cons v vs =>
          have q : RV c.K G d v ∧ APs c.K G σ m ds vs := by cases a <;> first | exact q | exact Bool.noConfusion hn
          have f : (m.fresh ds r).map (d :: ·) = some ds' := by cases a <;> first | exact f | exact Bool.noConfusion hn
          cases e2 : m.fresh ds r with
          | none => rw [e2] at f; cases f
          | some l =>
            rw [e2] at f
            cases f
            obtain ⟨k1, k2⟩ := call_args S hsl h hm q.2 e2
            exact ⟨⟨d, l, v, vs, rfl, rfl, q.1, k1⟩, k2⟩
/-- behind a call -/
theorem SR.call {as : List Addr} {outs : List D} (S : SR c.K c.io Fr G σ H r) (k : Kept (frOf Fr σ r sl H) G G' H') (ha : SlA σ sl as) (ho : OutR c.K G' H' as outs) (nd : sl.Nodup) (hs : VL.setOw r sl outs = some r2) :
    SR c.K c.io Fr G' σ H' r2 ∧ ∀ i a, ownAt σ r2 i a → ownAt σ r i a := by
  obtain ⟨h1, h2, h3, h4, h5⟩ := setOw_spec hs nd
  have at_ := outs_at ha ho h4
  have back : ∀ i a, ownAt σ r2 i a → ownAt σ r i a := fun i a ⟨q1, d, q2⟩ => by
    by_cases z : i ∈ sl
    · obtain ⟨d0, e0⟩ := h3 i z
      exact ⟨q1, d0, .inl e0⟩
    · rw [h2 i z] at q2
      exact ⟨q1, d, q2⟩
  refine ⟨⟨by rw [h1, S.len], k.h, fun a o e => k.f a o (frOf_fr e), fun i x e => ?_, fun i j a q1 q2 => S.d i j a (back i a q1) (back j a q2), fun p hp => ?_⟩, back⟩
  · by_cases z : i ∈ sl
    · obtain ⟨a, d, e1, _, e2, e3, e4⟩ := at_ i z
      rw [e2] at e
      cases e
      obtain ⟨d0, e0⟩ := h3 i z
      exact ⟨a, e1, e4, (S.ownSlot ⟨e1, d0, .inl e0⟩).2.1, e3⟩
    · rw [h2 i z] at e
      have q := S.s i x e
      have other : ∀ {a : Addr}, Fr a = none → ownAt σ r i a → (∃ o, H a = some o) → G' a = none ∧ H' a = H a := fun {a} f0 q ⟨o, eo⟩ => by
        have := k.f a o (by rw [frOf_own f0 q z]; exact eo)
        exact ⟨this.2, by rw [this.1, eo]⟩
      cases x with
      | un => trivial
      | fz d => obtain ⟨v, e1, q⟩ := q; exact ⟨v, e1, q.mono k.g⟩
      | ow d =>
        obtain ⟨a, e1, q1, q2, q3⟩ := q
        obtain ⟨t1, t2⟩ := other q2 ⟨e1, d, .inl e⟩ q3.there
        exact ⟨a, e1, t1, q2, (q3.mono k.g).heap t2⟩
      | lk d =>
        obtain ⟨a, e1, q1, q2, q3⟩ := q
        obtain ⟨t1, t2⟩ := other q2 ⟨e1, d, .inr e⟩ q3.there
        exact ⟨a, e1, t1, q2, (q3.mono k.g).heap t2⟩
  · obtain ⟨e1, d, e2⟩ := S.i p hp
    by_cases z : p.1 ∈ sl
    · obtain ⟨a, d', _, _, e3, _⟩ := at_ _ z
      exact ⟨e1, d', .inl e3⟩
    · exact ⟨e1, d, by rw [h2 _ z]; exact e2⟩
end

/-- what a context knows of the defs -/
def CallsOk (X : Cx) (c : Cfg) (k : CkE) : Prop := ∀ (f : Nat) (fd : FDef) (x : Str), c.P.fs[f]? = some fd → k.FN[f]? = some x → ∃ (kk : Nat) (a : Addr) (fdata : FuncData) (ps : List Str), X.mg x = some (.ref a) ∧ PySem.W.keepIn X.K (.ref a) = true ∧ Binds X.K fdata ps [] ∧
  Room kk X.A ∧ FnG X.prog X.w X.K X.mg X.base (L2.CX X.prog X.w) kk a fdata ps (spG c fd.io fd.rf (c.cf f))
structure XOk (X : Cx) (c : Cfg) (k : CkE) : Prop extends XOk0 X c k where
  calls : CallsOk X c k
  kind : X.env.scope.kind = .function

section
variable {X : Cx} {c : Cfg} {k : CkE} {cx : CXT} {kk : Nat} {f : Addr} {fd : FuncData} {ps : List Str} {sp : Sp} {E : L2.St → XK}
theorem run_fnG {pins : List (Addr × Obj)} {σ : L2.St} {H : Hp} {s : Shared} {Q : VK} {us : List Value} {vs : List V} (F : FnG X.prog X.w X.K X.mg X.base cx kk f fd ps sp) (room : Room kk X.A) (gu : X.A.guards = some []) (bi : Binds X.K fd ps []) (pa : PassesAt cx X σ (E σ))
    (I : L2.Inv X pins σ H s) (rv : Vals vs us) (q : sp vs H Q (E σ)) : wpAny (model X.prog X.w) X.A (call (.ref f) us) (EP X pins σ Q) X.xe s := by
  have e1 : us.length = ps.length := rv.length.symm.trans (F.len _ _ _ _ q)
  have b1 := bi s us I.kIn (by rw [List.append_nil]; exact e1)
  rw [List.append_nil] at b1
  refine wpAny_call (codeAny_mono (F.run X.A X.stack s H ⟨us, []⟩ us vs Q (E σ) room gu I.env0 b1 rv q) ?_)
  rintro (e | fl) s' h
  · exact pa pins H s e s' I h
  · cases fl <;> first | exact I.after h | exact False.elim h
def tCallG (sp : Sp) (E : L2.St → XK) (t : TA) : TE := fun σ H Q => t σ H fun vs H1 => sp vs H1 Q (E σ)
theorem pe_callG {x : Str} {p pos : Pos} {e : Expr} {l : List Expr} {t : TA} (F : FnG X.prog X.w X.K X.mg X.base cx kk f fd ps sp) (room : Room kk X.A) (gu : X.A.guards = some []) (gl : Gl X x) (hm : X.mg x = some (.ref f)) (kp : PySem.W.keepIn X.K (.ref f) = true)
    (bi : Binds X.K fd ps []) (pa : ∀ σ, PassesAt cx X σ (E σ)) (ha : PA X (e :: l) t) (dbg : (x == ("__debug__" : Str)) = false) (h1 : starEach (e :: l) X.env = (false, eval e X.env) :: starEach l X.env) (h2 : (backTo pos (starEach l X.env)).any (·.1) = false) :
    PE X (.Call (.Name x p) (e :: l) [] pos) (tCallG sp E t) := by
  constructor
  intro pins s σ H Q I h
  refine wpAny_Call_Name_kw (ld_glob I gl hm ?_ dbg)
  exact PySem.W.callWith_K (h₀ := X.base) I.ok.mod.kin kp (thn (ha.run pos pins s σ H _ I h) fun us s1 ⟨vs, H1, I1, r, q⟩ => ⟨I1.kIn, run_fnG F room gu bi (pa σ) I1 r q⟩) h1 h2
theorem pe_callG0 {x : Str} {p pos : Pos} (F : FnG X.prog X.w X.K X.mg X.base cx kk f fd ps sp) (room : Room kk X.A) (gu : X.A.guards = some []) (gl : Gl X x) (hm : X.mg x = some (.ref f)) (kp : PySem.W.keepIn X.K (.ref f) = true)
    (bi : Binds X.K fd ps []) (pa : ∀ σ, PassesAt cx X σ (E σ)) (dbg : (x == ("__debug__" : Str)) = false) :
    PE X (.Call (.Name x p) [] [] pos) (fun σ H Q => sp [] H Q (E σ)) := by
  constructor
  intro pins s σ H Q I h
  refine wpAny_Call_Name_kw (ld_glob I gl hm ?_ dbg)
  exact PySem.W.callWith_K0 I.kIn kp (run_fnG F room gu bi (pa σ) I .nil h)
/-- a call's node -/
theorem call_core (O : XOk X c k) {fi : Nat} {fdf : FDef} {sl : List Nat} {a : ME} {σ : L2.St} {H : Hp} {Q : VK} (hf : c.P.fs[fi]? = some fdf) (hs : ioSl fdf.io a = some sl) (nd : sl.Nodup) (h : tS c fdf.rf (.call fi sl a) σ H Q) :
    tA c a σ H fun vs H1 => spG c fdf.io fdf.rf (c.cf fi) vs H1 Q (WE c.W σ) := by
  obtain ⟨Fr, G, r, S, h⟩ := h
  refine ⟨Fr, G, r, S, (Res.bind h).mono fun ds r1 q vs H1 G1 S1 g1 av => ?_⟩
  cases e1 : a.fresh ds r1 with
  | none => rw [e1] at q; exact q.elim
  | some x =>
    rw [e1] at q
    dsimp only at q
    cases e2 : c.cf fi x with
    | stk => rw [e2] at q; exact q.elim
    | ok d outs =>
      rw [e2] at q
      dsimp only at q
      cases e3 : VL.setOw r1 sl outs with
      | none => rw [e3] at q; exact q.elim
      | some r2 =>
        rw [e3] at q
        obtain ⟨d', e4, q⟩ := q
        cases e4
        obtain ⟨h1, h2, h3, h4, h5⟩ := setOw_spec e3 nd
        obtain ⟨k1, k2⟩ := call_args S1 h3 hs (fun _ h => h) av e1
        refine ⟨frOf Fr σ r1 sl H1, G1, x, S1.g, fun b o e => ?_, k1, SlA.nodup S1 k2 nd h3, ?_⟩
        · rcases frOf_inv e with z | ⟨z, j, zo, _⟩
          · exact S1.f b o z
          · exact ⟨z, (S1.ownSlot zo).1⟩
        · rw [e2]
          intro v H' G' kp ot rv
          obtain ⟨S2, bk⟩ := S1.call kp k2 ot nd e3
          refine q v H' G' S2 (g1.trans kp.g) ?_
          unfold ResV at rv
          unfold SV FV
          cases hrf : fdf.rf with
          | false =>
            rw [hrf] at rv
            exact rv
          | true =>
            rw [hrf] at rv
            rw [if_pos rfl]
            split at rv
            · rename_i hm
              have hm : d.mutb = true := by simpa using hm
              rw [if_pos hm]
              obtain ⟨b, rfl, z1, z2, z3, z4⟩ := rv
              have fb : Fr b = none := by
                cases ef : Fr b with
                | none => rfl
                | some o => rw [frOf_fr ef] at z3; cases z3
              refine ⟨b, rfl, z1, z2, fb, fun j qo => ?_⟩
              have q1 := bk j b qo
              by_cases zz : j ∈ sl
              · obtain ⟨b2, d2, y1, y2, _⟩ := outs_at k2 ot h4 j zz
                have := q1.1
                rw [y1] at this
                cases this
                exact z4 y2
              · obtain ⟨_, _, o, ho⟩ := S1.ownSlot q1
                rw [frOf_own fb q1 zz, ho] at z3
                cases z3
            · rename_i hm
              rw [if_neg (by simpa using hm)]
              exact rv
    | err n fs outs =>
      rw [e2] at q
      dsimp only at q
      cases e3 : VL.setOw r1 sl outs with
      | none => rw [e3] at q; exact q.elim
      | some r2 =>
        rw [e3] at q
        obtain ⟨h1, h2, h3, h4, h5⟩ := setOw_spec e3 nd
        obtain ⟨k1, k2⟩ := call_args S1 h3 hs (fun _ h => h) av e1
        refine ⟨frOf Fr σ r1 sl H1, G1, x, S1.g, fun b o e => ?_, k1, SlA.nodup S1 k2 nd h3, ?_⟩
        · rcases frOf_inv e with z | ⟨z, j, zo, _⟩
          · exact S1.f b o z
          · exact ⟨z, (S1.ownSlot zo).1⟩
        · rw [e2]
          intro H' G' dx kp ot xr
          obtain ⟨S2, bk⟩ := S1.call kp k2 ot nd e3
          exact q H' G' dx S2 (g1.trans kp.g) xr
theorem pe_call (O : XOk X c k) {fi : Nat} {fdf : FDef} {x : Str} {sl : List Nat} {a : ME} {es : List Expr} {p pos : Pos} (hf : c.P.fs[fi]? = some fdf) (hN : k.FN[fi]? = some x) (hx : k.names.lookup x = some .globalImplicit) (hd : (x == ("__debug__" : Str)) = false) (hs : ioSl fdf.io a = some sl) (nd : sl.Nodup) (ha : ArgsOk c X a es) :
    PE X (.Call (.Name x p) es [] pos) (tS c fdf.rf (.call fi sl a)) := by
  obtain ⟨kk, f, fdata, ps, h1, h2, h3, h4, h5⟩ := O.calls fi fdf x hf hN
  cases es with
  | nil =>
    refine peI (pe_callG0 h5 h4 O.g.guards (O.gl0 hx) h1 h2 h3 (fun σ => passAt O.tk σ) hd) fun σ H Q q => ?_
    have q2 := call_core O hf hs nd q
    cases a <;> try (exact ha.elim)
    obtain ⟨Fr, G, r, S, q2⟩ := q2
    exact q2 [] H G S (Same.refl _) ⟨rfl, rfl⟩
  | cons e l =>
    have ha' := ha
    cases a <;> try (exact ha.elim)
    case nil => cases (show e :: l = [] from ha)
    obtain ⟨_, _, s1, s2⟩ := ha
    exact peI (pe_callG h5 h4 O.g.guards (O.gl0 hx) h1 h2 h3 (fun σ => passAt O.tk σ) ha'.pa hd (s1 _) (s2.plain _ _)) fun σ H Q q => call_core O hf hs nd q
end
end VL

/-! VL11: the expressions' nodes. -/
namespace VL
open PySem PySem.Spec L2
section
variable {X : Cx} {c : Cfg} {k : CkE} {Fr G G' H H' : Hp} {σ : L2.St} {r : Env}
def VOk (c : Cfg) (X : Cx) (m : ME) (e : Expr) : Prop := (isNm m = true → PE X e (tP c m)) ∧ (isNm m = false → PE X e (tS c (m.fr c.P) m))
theorem VOk.p {m : ME} {e : Expr} (h : VOk c X m e) : PE X e (tP c m) := by
  cases hm : isNm m with
  | true => exact h.1 hm
  | false => exact pe_peek hm (h.2 hm)
theorem VOk.of {m : ME} {e : Expr} (hm : isNm m = false) (h : PE X e (tS c (m.fr c.P) m)) : VOk c X m e := ⟨fun z => (by rw [hm] at z; cases z), fun _ => h⟩
theorem SV.vw {fr : Bool} {d : D} {v : V} (h : SV c.K fr Fr G H σ r d v) : VW c.K G H d v := by
  unfold SV at h
  split at h
  · unfold FV at h
    split at h
    · obtain ⟨a, rfl, h1, _⟩ := h
      exact .inr ⟨a, rfl, h1⟩
    · exact .inl h
  · exact .inl h
theorem APs.vw1 {m : ME} {d : D} {v : V} (S : SR c.K c.io Fr G σ H r) {r0 : Env} (h1 : evl c m r0 = .ok [d] r) (h : APs c.K G σ (.cons m .nil) [d] [v]) : VW c.K G H d v := by
  cases hm : isNm m with
  | false => exact .inl (APs.rv hm h)
  | true =>
    cases m <;> try (cases hm; done)
    rename_i j
    have h1 : (match peek r0 j with
      | some d => Out.ok [d] r0
      | none => .stk) = .ok [d] r := h1
    cases e : peek r0 j with
    | none => rw [e] at h1; cases h1
    | some d0 =>
      rw [e] at h1
      cases h1
      exact peek_vw S e h.1

/-! ### constants, names -/
def kstOk : D → Expr → Bool
  | .non, .Constant .none _ _ => true
  | .bl b, .Constant (.bool b') _ _ => b == b'
  | .int i, .Constant (.int j) _ _ => i == j
  | .str s, .Constant (.str z) _ _ => decide (s = z)
  | .dct [], .Dict [] [] _ => true
  | _, _ => false
theorem tS_const {d : D} {v : V} {Q : VK} (hd : d.mutb = false) (hv : ∀ G, RV c.K G d v) (h : tS c true (.kst d) σ H Q) : Q v H := by
  obtain ⟨Fr, G, r, S, h⟩ := h
  obtain ⟨d', e, q⟩ := h
  cases e
  refine q v H G S (Same.refl _) ?_
  unfold SV FV
  rw [if_pos rfl, if_neg (by rw [hd]; exact Bool.false_ne_true)]
  exact hv G
theorem kst_pe {d : D} {e : Expr} (h : kstOk d e = true) : PE X e (tS c true (.kst d)) := by
  unfold kstOk at h
  split at h
  · exact peI pe_non fun σ H Q q => tS_const (c := c) (d := .non) (v := .non) rfl (fun _ => rfl) q
  · rename_i b b' _ _
    obtain rfl : b = b' := by simpa using h
    exact peI pe_bl fun σ H Q q => tS_const (c := c) (d := .bl b) (v := .bl b) rfl (fun _ => rfl) q
  · rename_i b b' _ _
    obtain rfl : b = b' := by simpa using h
    exact peI pe_int fun σ H Q q => tS_const (c := c) (d := .int b) (v := .int b) rfl (fun _ => rfl) q
  · rename_i b b' _ _
    obtain rfl : b = b' := by simpa using h
    exact peI pe_str fun σ H Q q => tS_const (c := c) (d := .str b) (v := .str b) rfl (fun _ => rfl) q
  · refine peI pe_dnewK fun σ H Q q p hp => ?_
    obtain ⟨Fr, G, r, S, q⟩ := q
    obtain ⟨d', e, q⟩ := q
    cases e
    exact (post_of S (Same.refl _) q).new p (.dK []) hp ⟨rfl, rfl⟩
  · cases h
theorem vis_of {j : Nat} {x : Str} (h : vis k j x = true) : k.N[j]? = some x ∧ (x == ("__debug__" : Str)) = false ∧ (x == ("__classdict__" : Str)) = false ∧ (k.names.lookup x = some .local ∨ k.names.lookup x = some .cell ∨ k.names.lookup x = some .free) := by
  unfold vis at h
  simp only [Bool.and_eq_true, decide_eq_true_eq, Bool.not_eq_true', decide_eq_false_iff_not] at h
  obtain ⟨⟨⟨h1, h2⟩, h3⟩, h4⟩ := h
  refine ⟨h1, by simpa using h2, by simpa using h3, ?_⟩
  split at h4
  · exact .inl (by assumption)
  · exact .inr (.inl (by assumption))
  · exact .inr (.inr (by assumption))
  · cases h4
theorem pe_name (O : XOk0 X c k) {j : Nat} {x : Str} {pos : Pos} (h : vis k j x = true) : PE X (.Name x pos) (tVar j) := by
  obtain ⟨h1, h2, h3, h4⟩ := vis_of h
  exact pe_var (by rw [O.N]; exact h1) (by show X.env.scope.names.lookup x = _ ∨ _; rw [O.nm]; exact h4) h2 h3
theorem pe_nm (O : XOk0 X c k) {j : Nat} {x : Str} {pos : Pos} (h : vis k j x = true) : PE X (.Name x pos) (tP c (.nm j)) := peI (pe_name O h) fun σ H Q q => by
  obtain ⟨Fr, G, r, S, q⟩ := q
  have q : Res c Fr G σ (match peek r j with
    | some d => Out.ok [d] r
    | none => .stk) _ := q
  cases e : peek r j with
  | none => rw [e] at q; exact q.elim
  | some d =>
    rw [e] at q
    obtain ⟨d', e2, q⟩ := q
    cases e2
    obtain ⟨v, hv⟩ : ∃ v, σ[j]? = some (some v) := by
      unfold peek at e
      split at e
      · rename_i e1; obtain ⟨v, e2, _⟩ := S.s _ _ e1; exact ⟨v, e2⟩
      · rename_i e1; obtain ⟨v, e2, _⟩ := S.s _ _ e1; exact ⟨_, e2⟩
      · rename_i e1; obtain ⟨v, e2, _⟩ := S.s _ _ e1; exact ⟨_, e2⟩
      · cases e
    exact ⟨v, hv, q v H G S (Same.refl _) ⟨hv, rfl, rfl⟩⟩
theorem io_out (hio : ∀ p ∈ c.io, p.1 ∈ k.io) {j : Nat} (h : k.io.contains j = false) : ∀ p ∈ c.io, p.1 ≠ j := fun p hp z => by
  have := hio p hp
  rw [z] at this
  have : k.io.contains j = true := by simpa using this
  rw [h] at this
  cases this
theorem pe_cap (O : XOk0 X c k) {j : Nat} {x : Str} {pos : Pos} (h : vis k j x = true) (hj : k.io.contains j = false) : PE X (.Name x pos) (tS c false (.cap j)) := peI (pe_name O h) fun σ H Q q => by
  obtain ⟨Fr, G, r, S, q⟩ := q
  have q : Res c Fr G σ (match capE r j with
    | some (d, r') => Out.ok [d] r'
    | none => .stk) _ := q
  unfold capE at q
  cases e : r[j]? with
  | none => rw [e] at q; exact q.elim
  | some s =>
    rw [e] at q
    cases s with
    | un => exact q.elim
    | lk d => exact q.elim
    | fz d =>
      obtain ⟨d', e2, q⟩ := q
      cases e2
      obtain ⟨v, hv, rv⟩ := S.s _ _ e
      exact ⟨v, hv, q v H G S (Same.refl _) rv⟩
    | ow d =>
      obtain ⟨d', e2, q⟩ := q
      cases e2
      obtain ⟨a, o, h1, h2, h3, S', rv⟩ := S.cap (io_out O.io hj) e
      exact ⟨_, h1, q _ H _ S' (same_upd h2) rv⟩
theorem pe_gt (O : XOk0 X c k) {i : Nat} {x : Str} {d : D} {pos : Pos} (h : k.gt[i]? = some (x, d)) (hx : k.names.lookup x = some .globalImplicit) (hd : (x == ("__debug__" : Str)) = false) : PE X (.Name x pos) (tS c false (.glb i)) := by
  rw [O.gtk] at h
  obtain ⟨u, v, h1, h2, h3⟩ := O.gl i x d h
  refine peI (pe_glob (O.gl0 hx) h1 h2 hd) fun σ H Q q => ?_
  obtain ⟨Fr, G, r, S, q⟩ := q
  have q : Res c Fr G σ (match c.P.gt[i]? with
    | some x => Out.ok [x.2] r
    | none => .stk) _ := q
  rw [h] at q
  obtain ⟨d', e2, q⟩ := q
  cases e2
  exact q v H G S (Same.refl _) (h3 G)

/-! ### a < b < c -/
def cmpOp : Op → Option CmpOp
  | .eq => some .Eq
  | .ne => some .NotEq
  | .lt => some .Lt
  | .le => some .LtE
  | .gt => some .Gt
  | .ge => some .GtE
  | _ => none
theorem cmp_op (O : XOk0 X c k) {o : Op} {p : CmpOp} (h : cmpOp o = some p) : OpR X (compareOp p) (rD2 X.K o true) := by
  cases o <;> try (cases h; done)
  case eq => cases h; exact r2_eq O.g
  case ne => cases h; exact r2_ne O.g
  case lt => cases h; exact r2_lt
  case le => cases h; exact r2_le
  case gt => cases h; exact r2_gt
  case ge => cases h; exact r2_ge
theorem cmp_isCmp {o : Op} {p : CmpOp} (h : cmpOp o = some p) : isCmp o = true ∧ p ≠ .In ∧ p ≠ .NotIn := by
  cases o <;> first | (cases h; done) | (cases h; exact ⟨rfl, by decide, by decide⟩)
theorem post_bl {o : Op} {d : D} {Q : VK} {G1 H1 : Hp} (h : OpPost c.K G1 H1 true d Q) {b : Bool} (e : d = .bl b) : Q (.bl b) H1 := by
  subst e
  exact bl_post h
theorem VWs.two' {K : PySem.W.Frag} {ds : List D} {x y : V} (h : VWs K G H ds [x, y]) : ∃ d1 d2, ds = [d1, d2] ∧ VW K G H d1 x ∧ VW K G H d2 y := by
  match ds, h with
  | [], h => cases (show _ = [] from h)
  | [_], h => obtain ⟨v, rr, e, _, q⟩ := h; cases e; cases (show _ = [] from q)
  | [d1, d2], h =>
    obtain ⟨v, w, e, q1, q2⟩ := VWs.two h
    cases e
    exact ⟨d1, d2, rfl, q1, q2⟩
  | _ :: _ :: _ :: _, h => obtain ⟨v, rr, e, _, v2, r2, e2, _, v3, r3, e3, _⟩ := h; cases e; cases e2; cases e3
theorem VWs.one' {K : PySem.W.Frag} {ds : List D} {x : V} (h : VWs K G H ds [x]) : ∃ d1, ds = [d1] ∧ VW K G H d1 x := by
  match ds, h with
  | [], h => cases (show _ = [] from h)
  | [d1], h =>
    obtain ⟨v, e, q1⟩ := VWs.one h
    cases e
    exact ⟨d1, rfl, q1⟩
  | _ :: _ :: _, h => obtain ⟨v, rr, e, _, v2, r2, e2, _⟩ := h; cases e; cases e2
theorem APs.refresh : ∀ {m : ME} {ds ds' : List D} {vs : List V}, APs c.K G σ m ds vs → m.fresh ds r = some ds' → APs c.K G σ m ds' vs := by
  intro m
  induction m with
  | cons a m _ ih =>
    intro ds ds' vs h f
    cases ds with
    | nil => cases a <;> exact h.elim
    | cons d ds =>
      cases vs with
      | nil => cases a <;> exact h.elim
      | cons v vs =>
        by_cases hn : ∃ j, a = .nm j
        · obtain ⟨j, rfl⟩ := hn
          have f : (match peek r j, m.fresh ds r with
            | some d, some l => some (d :: l)
            | _, _ => none) = some ds' := f
          split at f
          · rename_i d1 l e1 e2
            cases f
            exact ⟨h.1, ih h.2 e2⟩
          · cases f
        · have f : (m.fresh ds r).map (d :: ·) = some ds' := by cases a <;> first | exact f | exact absurd ⟨_, rfl⟩ hn
          cases e : m.fresh ds r with
          | none => rw [e] at f; cases f
          | some l =>
            rw [e] at f
            cases f
            cases a <;> first | exact absurd ⟨_, rfl⟩ hn | exact ⟨h.1, ih h.2 e⟩
  | nil =>
    intro ds ds' vs h f
    obtain ⟨rfl, rfl⟩ := h
    cases f
    exact ⟨rfl, rfl⟩
  | _ => intro ds ds' vs h; cases ds <;> cases vs <;> exact h.elim
theorem chain_core (hK : X.K = c.K) {o1 o2 : Op} {p1 : CmpOp} {a b z : ME} {Q : VK} (i1 : isCmp o1 = true) (h1 : a.one = true) (h2 : b.one = true) (h3 : z.one = true) (h : tS c true (.chain o1 o2 (.cons a (.cons b .nil)) z) σ H Q) :
    tChain (rD2 X.K o1 true) (rD2 X.K o2 true) (tP c a) (tP c b) (tP c z) σ H Q := by
  obtain ⟨Fr, G, r, S, h⟩ := h
  refine (args2 h1 h2 S (Res.bind h)).imp fun x H1 q => q.imp fun y H2 ⟨G1, r1, ds, S1, g1, av, q⟩ => ?_
  cases e1 : (ME.cons a (.cons b .nil)).fresh ds r1 with
  | none => rw [e1] at q; exact q.elim
  | some ds' =>
    rw [e1] at q
    dsimp only at q
    obtain ⟨d1, d2, rfl, k1, k2⟩ := VWs.two' (APs.fresh S1 av e1)
    cases e2 : o1.ap shownD [d1, d2] with
    | none => rw [e2] at q; exact q.elim
    | some d =>
      rw [e2] at q
      obtain ⟨t, rfl⟩ := ap_bl i1 _ _ (show ap o1 [d1, d2] = some d from e2)
      rw [hK]
      refine ⟨G1, d1, d2, _, S1.g, k1, k2, e2, post_of S1 (Same.refl _) fun v H3 G3 S3 g3 sv => ?_⟩
      have ev : v = .bl t := sv
      refine ⟨t, ev, ?_⟩
      cases t with
      | false =>
        obtain ⟨d', e3, q⟩ := q
        cases e3
        exact q _ H3 G3 S3 (g1.trans g3) rfl
      | true =>
        rw [if_pos rfl]
        have q := (Res.bind q).grow (g1.trans g3)
        have q : Res c Fr G3 σ (evl c z r1) _ := q
        refine ⟨Fr, G3, r1, S3, ?_⟩
        cases ez : evl c z r1 with
        | err n fs r2 => rw [ez] at q; exact q
        | stk => rw [ez] at q; exact q.elim
        | ok zs r4 =>
          rw [ez] at q
          obtain ⟨dz, rfl⟩ := ME.one_ev h3 ez
          refine ⟨dz, rfl, fun w H4 G4 S4 g4 az => ?_⟩
          have q : Res c Fr G σ _ _ := q
          cases e5 : (ME.cons a (.cons b .nil)).fresh [d1, d2] r4 with
          | none => rw [e5] at q; exact q.elim
          | some ds2 =>
            rw [e5] at q
            obtain ⟨d3, d4, rfl, k3, k4⟩ := VWs.two' (APs.fresh S4 (((av.refresh e1).mono g3).mono g4) e5)
            dsimp only at q
            cases e6 : (ME.cons z .nil).fresh [dz] r4 with
            | none => rw [e6] at q; exact q.elim
            | some zs2 =>
              rw [e6] at q
              obtain ⟨d5, rfl, k5⟩ := VWs.one' (APs.fresh S4 az e6)
              dsimp only at q
              cases e7 : o2.ap shownD [d4, d5] with
              | none => rw [e7] at q; exact q.elim
              | some d6 =>
                rw [e7] at q
                obtain ⟨d7, e8, q⟩ := q
                cases e8
                exact ⟨G4, d4, d5, d6, S4.g, k4, k5, e7, post_of S4 ((g1.trans g3).trans g4) q⟩
end
end VL

/-! VL12: and, or, if else; tests; append; comprehensions. -/
namespace VL
open PySem PySem.Spec L2
section
variable {X : Cx} {c : Cfg} {k : CkE} {Fr G G' H H' : Hp} {σ : L2.St} {r : Env}
theorem pe_cast {e : Expr} {m : ME} {fr fr' : Bool} (h : PE X e (tS c fr m)) (z : fr' = true → fr = true) : PE X e (tS c fr' m) := by
  cases fr' with
  | false => exact pe_weak h
  | true => rw [z rfl] at h; exact h
theorem and_core (hK : X.K = c.K) {fr : Bool} {a b : ME} {Q : VK} (h : tS c fr (.and_ a b) σ H Q) : tAndT X.K (tS c fr a) (tS c fr b) σ H Q := by
  obtain ⟨Fr, G, r, S, h⟩ := h
  refine ⟨Fr, G, r, S, (Res.bind h).mono fun ds r1 q => ?_⟩
  match ds, q with
  | [], q => exact q.elim
  | _ :: _ :: _, q => exact q.elim
  | [d], q =>
    refine ⟨d, rfl, fun v H' G' S' g sv => ?_⟩
    dsimp only at q
    cases e : d.tru with
    | none => rw [e] at q; exact q.elim
    | some t =>
      rw [e] at q
      refine ⟨t, by rw [hK]; exact tru_D S'.g sv.vw e, ?_⟩
      cases t with
      | true =>
        have q : Res c Fr G σ (evl c b r1) _ := q
        exact ⟨Fr, G', r1, S', (q.grow g).mono fun ds2 r2 ⟨d2, e2, q⟩ => ⟨d2, e2, fun v2 H2 G2 S2 g2 sv2 => q v2 H2 G2 S2 (g.trans g2) sv2⟩⟩
      | false =>
        obtain ⟨d2, e2, q⟩ := q
        cases e2
        exact q v H' G' S' g sv
theorem or_core (hK : X.K = c.K) {fr : Bool} {a b : ME} {Q : VK} (h : tS c fr (.or_ a b) σ H Q) : tOrT X.K (tS c fr a) (tS c fr b) σ H Q := by
  obtain ⟨Fr, G, r, S, h⟩ := h
  refine ⟨Fr, G, r, S, (Res.bind h).mono fun ds r1 q => ?_⟩
  match ds, q with
  | [], q => exact q.elim
  | _ :: _ :: _, q => exact q.elim
  | [d], q =>
    refine ⟨d, rfl, fun v H' G' S' g sv => ?_⟩
    dsimp only at q
    cases e : d.tru with
    | none => rw [e] at q; exact q.elim
    | some t =>
      rw [e] at q
      refine ⟨t, by rw [hK]; exact tru_D S'.g sv.vw e, ?_⟩
      cases t with
      | false =>
        have q : Res c Fr G σ (evl c b r1) _ := q
        exact ⟨Fr, G', r1, S', (q.grow g).mono fun ds2 r2 ⟨d2, e2, q⟩ => ⟨d2, e2, fun v2 H2 G2 S2 g2 sv2 => q v2 H2 G2 S2 (g.trans g2) sv2⟩⟩
      | true =>
        obtain ⟨d2, e2, q⟩ := q
        cases e2
        exact q v H' G' S' g sv
theorem ite_core {fr : Bool} {cc a b : ME} {Q : VK} (h : tS c fr (.ite cc a b) σ H Q) : tIf (tT c cc) (tS c fr a) (tS c fr b) σ H Q := by
  obtain ⟨Fr, G, r, S, h⟩ := h
  have h := Res.bind h
  have h : Res c Fr G σ (evl c cc r) _ := h
  refine ⟨Fr, G, r, S, ?_⟩
  have key : Res c Fr G σ ((evl c cc r).bind fun x r1 => match x with
    | [x] => match x.tru with
      | some b => Out.ok b r1
      | none => .stk
    | _ => .stk) fun t r' => ∀ (H' G' : Hp), SR c.K c.io Fr G' σ H' r' → Same G G' → if t = true then tS c fr a σ H' Q else tS c fr b σ H' Q := by
    cases ev : evl c cc r with
    | stk => rw [ev] at h; exact h.elim
    | err n fs r1 => rw [ev] at h; exact h
    | ok ds r1 =>
      rw [ev] at h
      have q : Res c Fr G σ (match ds with
        | [x] => match x.tru with
          | some true => evl c a r1
          | some false => evl c b r1
          | none => .stk
        | _ => .stk) fun ds r' => ∃ d, ds = [d] ∧ ∀ (v : V) (H' G' : Hp), SR c.K c.io Fr G' σ H' r' → Same G G' → SV c.K fr Fr G' H' σ r' d v → Q v H' := h
      match ds, q with
      | [], q => exact q.elim
      | _ :: _ :: _, q => exact q.elim
      | [d], q =>
        show Res c Fr G σ (match d.tru with
          | some b => Out.ok b r1
          | none => .stk) _
        dsimp only at q
        cases e : d.tru with
        | none => rw [e] at q; exact q.elim
        | some t =>
          rw [e] at q
          intro H' G' S' g
          cases t with
          | true => exact ⟨Fr, G', r1, S', (q.grow g).mono fun ds2 r2 ⟨d2, e2, q⟩ => ⟨d2, e2, fun v2 H2 G2 S2 g2 sv2 => q v2 H2 G2 S2 (g.trans g2) sv2⟩⟩
          | false => exact ⟨Fr, G', r1, S', (q.grow g).mono fun ds2 r2 ⟨d2, e2, q⟩ => ⟨d2, e2, fun v2 H2 G2 S2 g2 sv2 => q v2 H2 G2 S2 (g.trans g2) sv2⟩⟩
  exact key

/-! ### tests -/
theorem evC_and (a b : ME) (r : Env) : evC shownD c.P c.cf (.and_ a b) r = (evC shownD c.P c.cf a r).bind fun t r1 => if t then evC shownD c.P c.cf b r1 else .ok false r1 := by
  show (((evl c a r).bind fun x r1 => match x with
    | [x] => match x.tru with
      | some true => evl c b r1
      | some false => .ok [x] r1
      | none => .stk
    | _ => .stk).bind _) = ((evl c a r).bind _).bind _
  cases evl c a r with
  | stk => rfl
  | err n fs r1 => rfl
  | ok ds r1 =>
    match ds with
    | [] => rfl
    | _ :: _ :: _ => rfl
    | [d] =>
      show ((match d.tru with
        | some true => evl c b r1
        | some false => Out.ok [d] r1
        | none => .stk).bind _) = ((match d.tru with
          | some b => Out.ok b r1
          | none => .stk).bind _)
      cases e : d.tru with
      | none => rfl
      | some t =>
        cases t with
        | true => rfl
        | false =>
          show (match d.tru with
            | some b => Out.ok b r1
            | none => .stk) = _
          rw [e]
          rfl
theorem evC_or (a b : ME) (r : Env) : evC shownD c.P c.cf (.or_ a b) r = (evC shownD c.P c.cf a r).bind fun t r1 => if t then .ok true r1 else evC shownD c.P c.cf b r1 := by
  show (((evl c a r).bind fun x r1 => match x with
    | [x] => match x.tru with
      | some true => .ok [x] r1
      | some false => evl c b r1
      | none => .stk
    | _ => .stk).bind _) = ((evl c a r).bind _).bind _
  cases evl c a r with
  | stk => rfl
  | err n fs r1 => rfl
  | ok ds r1 =>
    match ds with
    | [] => rfl
    | _ :: _ :: _ => rfl
    | [d] =>
      show ((match d.tru with
        | some true => Out.ok [d] r1
        | some false => evl c b r1
        | none => .stk).bind _) = ((match d.tru with
          | some b => Out.ok b r1
          | none => .stk).bind _)
      cases e : d.tru with
      | none => rfl
      | some t =>
        cases t with
        | false => rfl
        | true =>
          show (match d.tru with
            | some b => Out.ok b r1
            | none => .stk) = _
          rw [e]
          rfl
theorem tT_and {a b : ME} {Q : Bool → Hp → Prop} (h : tT c (.and_ a b) σ H Q) : tAnd (tT c a) (tT c b) σ H Q := by
  obtain ⟨Fr, G, r, S, h⟩ := h
  rw [evC_and] at h
  refine ⟨Fr, G, r, S, (Res.bind h).mono fun t r1 q H' G' S' g => ?_⟩
  cases t with
  | true =>
    have q : Res c Fr G σ (evC shownD c.P c.cf b r1) _ := q
    exact ⟨Fr, G', r1, S', (q.grow g).mono fun t2 r2 q H2 G2 S2 g2 => q H2 G2 S2 (g.trans g2)⟩
  | false => exact q H' G' S' g
theorem tT_or {a b : ME} {Q : Bool → Hp → Prop} (h : tT c (.or_ a b) σ H Q) : tOr (tT c a) (tT c b) σ H Q := by
  obtain ⟨Fr, G, r, S, h⟩ := h
  rw [evC_or] at h
  refine ⟨Fr, G, r, S, (Res.bind h).mono fun t r1 q H' G' S' g => ?_⟩
  cases t with
  | false =>
    have q : Res c Fr G σ (evC shownD c.P c.cf b r1) _ := q
    exact ⟨Fr, G', r1, S', (q.grow g).mono fun t2 r2 q H2 G2 S2 g2 => q H2 G2 S2 (g.trans g2)⟩
  | true => exact q H' G' S' g
theorem evC_not (a : ME) (r : Env) (ha : ∀ ds r1, evl c a r = .ok ds r1 → ∃ d, ds = [d] ∧ (ME.cons a .nil).fresh [d] r1 = some [d]) : evC shownD c.P c.cf (.op .not_ (.cons a .nil)) r = (evC shownD c.P c.cf a r).bind fun t r1 => .ok (!t) r1 := by
  show ((((evl c a r).bind fun x r1 => (Out.ok [] r1).bind fun y r2 => Out.ok (x ++ y) r2).bind fun x r1 => match (ME.cons a .nil).fresh x r1 with
    | some x => match ap .not_ x with
      | some d => Out.ok [d] r1
      | none => .stk
    | none => .stk).bind _) = ((evl c a r).bind _).bind _
  cases e : evl c a r with
  | stk => rfl
  | err n fs r1 => rfl
  | ok ds r1 =>
    obtain ⟨d, rfl, hf⟩ := ha ds r1 e
    show ((match (ME.cons a .nil).fresh [d] r1 with
      | some x => match ap .not_ x with
        | some d => Out.ok [d] r1
        | none => .stk
      | none => .stk).bind _) = ((match d.tru with
          | some b => Out.ok b r1
          | none => .stk).bind _)
    rw [hf]
    show ((match d.tru.map fun b => D.bl (!b) with
        | some d => Out.ok [d] r1
        | none => .stk).bind _) = _
    cases d.tru <;> rfl
theorem fresh_self {a : ME} (h1 : a.one = true) {r : Env} : ∀ ds r1, evl c a r = .ok ds r1 → ∃ d, ds = [d] ∧ (ME.cons a .nil).fresh [d] r1 = some [d] := fun ds r1 e => by
  obtain ⟨d, rfl⟩ := ME.one_ev h1 e
  refine ⟨d, rfl, ?_⟩
  by_cases hn : ∃ j, a = .nm j
  · obtain ⟨j, rfl⟩ := hn
    have e : (match peek r j with
      | some d => Out.ok [d] r
      | none => .stk) = .ok [d] r1 := e
    cases e2 : peek r j with
    | none => rw [e2] at e; cases e
    | some d0 =>
      rw [e2] at e
      cases e
      show (match peek r j, some [] with
        | some d, some l => some (d :: l)
        | _, _ => none) = _
      rw [e2]
  · cases a <;> first | rfl | exact absurd ⟨_, rfl⟩ hn
theorem tT_not {a : ME} (h1 : a.one = true) {Q : Bool → Hp → Prop} (h : tT c (.op .not_ (.cons a .nil)) σ H Q) : tNot (tT c a) σ H Q := by
  obtain ⟨Fr, G, r, S, h⟩ := h
  rw [evC_not a r (fresh_self h1)] at h
  exact ⟨Fr, G, r, S, (Res.bind h).mono fun t r1 q H' G' S' g => q H' G' S' g⟩
def plainT : Expr → Bool
  | .UnaryOp .. => false
  | .BoolOp .. => false
  | .IfExp .. => false
  | .Compare .. => false
  | _ => true
theorem plain_test {e : Expr} (h : plainT e = true) (env : PySem.Env) : ∀ whole, isTrue e env whole = (do let v ← whole; standAt e.pos; holding [v] (truthy v)) := by
  cases e <;> first | (intro _; rfl) | cases h
theorem pt_of_v (hK : X.K = c.K) {m : ME} {e : Expr} (hp : plainT e = true) (h : VOk c X m e) : PT X e (tT c m) := by
  cases hm : isNm m with
  | true =>
    refine ptI (pt_truth (h.1 hm) (plain_test hp _)) fun σ H Q q => ?_
    obtain ⟨Fr, G, r, S, q⟩ := q
    have q : Res c Fr G σ ((evl c m r).bind _) _ := q
    refine ⟨Fr, G, r, S, ?_⟩
    cases ev : evl c m r with
    | stk => rw [ev] at q; exact q.elim
    | err n fs r1 => rw [ev] at q; exact q
    | ok ds r1 =>
      rw [ev] at q
      have q : Res c Fr G σ (match ds with
        | [x] => match x.tru with
          | some b => Out.ok b r1
          | none => .stk
        | _ => .stk) _ := q
      match ds, q with
      | [], q => exact q.elim
      | _ :: _ :: _, q => exact q.elim
      | [d], q =>
        dsimp only at q
        cases e : d.tru with
        | none => rw [e] at q; exact q.elim
        | some t =>
          rw [e] at q
          exact ⟨d, rfl, fun v H' G' S' g av => ⟨t, by rw [hK]; exact tru_D S'.g (APs.vw1 S' ev av) e, q H' G' S' g⟩⟩
  | false =>
    refine ptI (pt_truth (h.2 hm) (plain_test hp _)) fun σ H Q q => ?_
    obtain ⟨Fr, G, r, S, q⟩ := q
    refine ⟨Fr, G, r, S, (Res.bind q).mono fun ds r1 q => ?_⟩
    match ds, q with
    | [], q => exact q.elim
    | _ :: _ :: _, q => exact q.elim
    | [d], q =>
      dsimp only at q
      cases e : d.tru with
      | none => rw [e] at q; exact q.elim
      | some t =>
        rw [e] at q
        exact ⟨d, rfl, fun v H' G' S' g sv => ⟨t, by rw [hK]; exact tru_D S'.g sv.vw e, q H' G' S' g⟩⟩

/-! ### append -/
theorem pe_append (O : XOk0 X c k) {j : Nat} {x : Str} {a : ME} {e : Expr} {p apos cpos : Pos} (hv : vis k j x = true) (hn : noNm a = true) (hl : (apos.endLine == cpos.line) = true) (ha : ArgsOk c X a [e]) : PE X (.Call (.Attribute (.Name x p) "append" apos) [e] [] cpos) (tS c false (.mop .append j a)) := by
  obtain ⟨a1, rfl, h1, p1⟩ := ha.single
  have hs := ha.2.2.1 X.env
  have hfew : ((backTo cpos (starEach [e] X.env)).all (fun x => !x.1) && (backToKw cpos (keywordEach [] X.env)).all (fun x => x.1.isSome)
      && decide ([e].length + ([] : List Keyword).length + (if ([] : List Keyword).isEmpty then 0 else 1) < 30)) = true := by
    rw [hs]
    rfl
  refine peI (pe_bm PySem.F.plainAttrs_list PySem.F.slot_list_append rfl mt_append (pe_name O hv) ha.pa rfl hfew hl hs rfl) fun σ H Q q => ?_
  obtain ⟨Fr, G, r, S, q⟩ := q
  have q : Res c Fr G σ (match r[j]? with
      | some (.ow (.lst _)) => (evl c (.cons a1 .nil) r).bind fun x r1 => match (ME.cons a1 .nil).fresh x r1, owned r1 j with
        | some x, some d => match MOp.ap .append d x with
          | some (y, d') => Out.ok [y] (r1.set j (.ow d'))
          | none => .stk
        | _, _ => .stk
      | _ => .stk) _ := q
  split at q
  · rename_i z0 e0
    obtain ⟨p0, e1, g0, f0, vs0, e2, rv0⟩ := S.s _ _ e0
    refine ⟨_, e1, .inl ⟨rfl, vs0, .inl (.inl e2)⟩, ?_⟩
    refine ⟨Fr, G, r, S, (Res.bind q).mono fun ds r1 q vs H1 G1 S1 g1 av => ?_⟩
    have rvs := APs.rvs hn av
    cases e3 : (ME.cons a1 .nil).fresh ds r1 with
    | none => rw [e3] at q; exact q.elim
    | some ds' =>
      rw [e3] at q
      cases fresh_same hn e3
      cases e4 : owned r1 j with
      | none => rw [e4] at q; exact q.elim
      | some d =>
        rw [e4] at q
        dsimp only at q
        have hr : r1[j]? = some (.ow d) := by
          unfold owned at e4
          split at e4
          · cases e4; assumption
          · cases e4
        match d, ds, q, rvs with
        | .lst xs, [y], q, rvs =>
          have q : Res c Fr G σ (match (if xs.length < line then some (D.non, D.lst (xs ++ [y])) else none) with
            | some (y, d') => Out.ok [y] (r1.set j (.ow d'))
            | none => .stk) _ := q
          split at q
          · rename_i y' d' ey
            obtain ⟨d2, e5, q⟩ := q
            cases e5
            have hz : xs.length < line := by
              by_cases hz : xs.length < line
              · exact hz
              · rw [if_neg hz] at ey; cases ey
            rw [if_pos hz] at ey
            cases ey
            obtain ⟨v, vr, rfl, hv1, hv2⟩ := rvs
            cases (show vr = [] from hv2)
            obtain ⟨p1', e6, g2, f2, ws, e7, rvw⟩ := S1.s _ _ hr
            rw [e1] at e6
            cases e6
            refine ⟨p0, ws, v, rfl, rfl, e7, ?_, ?_⟩
            · rw [RVs.len rvw, ← line_eq]; exact hz
            · exact q .non _ G1 (S1.put e1 hr ⟨_, upd_same, RVs.snoc rvw hv1⟩) g1 rfl
          · exact q.elim
        | .non, _, q, _ | .bl _, _, q, _ | .int _, _, q, _ | .str _, _, q, _ | .tup _, _, q, _ | .dct _, _, q, _ => exact q.elim
        | .lst _, [], q, _ => exact q.elim
        | .lst _, _ :: _ :: _, q, _ => exact q.elim
  · exact q.elim
end
end VL

/-! VL13: comprehensions. -/
namespace VL
open PySem PySem.Spec L2
def CkE.sc (k : CkE) (scope : Scope) : Scope := { scope with kind := .function, names := k.names }
def CkE.blk (k : CkE) (scope : Scope) : CkE := { k with names := (relS scope (k.sc scope)).names, raw := scope.names }
def Cfg.blk (c : Cfg) : Cfg := { c with W := fun _ _ _ _ => False }
def ownP (k : CkE) (own : List Nat) : List (Str × Nat) := own.filterMap fun j => (k.N[j]?).map fun x => (x, j)
def blkChk (k : CkE) (scope : Scope) (own : List Nat) : Bool := blkC k.N (k.sc scope) scope (ownP k own) && decide ((ownP k own).map (·.2) = own) && own.all (fun j => !k.io.contains j)
section
variable {X : Cx} {c : Cfg} {k : CkE} {Fr G G' H H' : Hp} {σ : L2.St} {r : Env}
theorem blk_names (O : XOk X c k) (scope : Scope) (cl : List (Str × Addr)) (C : Addr) : (compEnvC scope cl C X.env).scope = relS scope (k.sc scope) := by
  have e : (compEnvC scope cl C X.env).scope = relS scope X.env.scope := rfl
  rw [e]
  unfold relS CkE.sc
  rw [O.kind, O.nm]
theorem BlkOk.of (O : XOk X c k) {scope : Scope} {own : List Nat} (h : blkChk k scope own = true) : BlkOk X.N X.env.scope scope (ownP k own) ∧ (ownP k own).map (·.2) = own ∧ ∀ j ∈ own, k.io.contains j = false := by
  unfold blkChk at h
  simp only [Bool.and_eq_true, decide_eq_true_eq, List.all_eq_true, Bool.not_eq_true'] at h
  obtain ⟨⟨h1, h2⟩, h3⟩ := h
  have q := blkOk_by h1
  refine ⟨⟨q.kind, q.uniq, fun p hp => by rw [O.N]; exact q.ix p hp, fun y hy e => ?_, fun y hy e => by rw [O.N]; exact q.own y hy e⟩, h2, h3⟩
  have := q.free y hy e
  rw [O.nm]
  exact this
theorem XOk.blk (O : XOk X c k) {scope : Scope} (hk : scope.kind = .function) (s : Shared) (H : Hp) (C : Addr) (cl : List (Str × Addr)) (fp : List Addr) : XOk (X.blk s H scope (compEnvC scope cl C X.env) fp) c.blk (k.blk scope) where
  g := ⟨O.g.calm, O.g.guards, O.g.units⟩
  K := O.K
  N := O.N
  nd := O.nd
  nm := by
    show (compEnvC scope cl C X.env).scope.names = _
    rw [blk_names O]
    rfl
  raw := fun x h => by
    have e := blk_names O scope cl C
    refine ⟨?_, ?_⟩
    · show (compEnvC scope cl C X.env).scope.names.lookup x = _ ∨ _
      rw [e]
      rcases h with h | h
      · exact .inl (lookup_relS_keep (sc := k.sc scope) (by decide) h)
      · exact .inr (lookup_relS_keep (sc := k.sc scope) (by decide) h)
    · rcases h with h | h
      · right
        show (compEnvC scope cl C X.env).scope.names.lookup x = _
        rw [e]
        exact lookup_relS_keep (sc := k.sc scope) (by decide) h
      · left
        show (scope.names.lookup x == some .cell) = true
        rw [show scope.names.lookup x = some .cell from h]
        rfl
  io := O.io
  tk := fun u s' ⟨a, B, sI, pins, σ, H, cls, d, e, I, nb, up, sky, na, os, ag, w⟩ => w.elim
  bt := O.bt
  gtk := O.gtk
  gl := O.gl
  calls := fun f fd x h1 h2 => O.calls f fd x h1 h2
  kind := by
    show (compEnvC scope cl C X.env).scope.kind = _
    rw [blk_names O]
    exact hk
theorem drop_get {α : Type} {xs : List α} {i : Nat} {d : α} (h : xs[i]? = some d) : xs.drop i = d :: xs.drop (i + 1) := by
  obtain ⟨hi, e⟩ := List.getElem?_eq_some_iff.mp h
  rw [List.drop_eq_getElem_cons hi, e]
def tIf' (c : Cfg) (ifs : List Expr) (cc : ME) : TT := match ifs with
  | [] => tYes
  | _ => tT c cc
/-- the loop of a block -/
theorem comp_walk {own : List Nat} {tg : MG} {cc e : ME} {ifs : List Expr} {xs ys : List D} {r1 r2 : Env} {J : It} {G1 H1 : Hp} {Dn : Addr} {Q : Hp → Prop} (hcc : ifs = [] → cc = .kst (.bl true)) (hsl : ∀ j ∈ tg.slots, j ∈ own) (hio : ∀ j ∈ own, ∀ p ∈ c.io, p.1 ≠ j)
    (S1 : SR c.K c.io Fr G1 σ H1 r1) (hw : WalkD c.K G1 J xs) (hD : H1 Dn = none) (hl : compLoop own tg (evl c cc) (evl c e) [] xs r1 = .ok ys r2)
    (hQ : ∀ (H : Hp) (G2 : Hp) (accv : List V), SR c.K c.io (upd Fr Dn (.lst accv)) G2 (wipe σ own) H (wipeE r2 own) → Same G1 G2 → RVs c.K G2 ys accv → Q H) :
    ∃ W : Nat → Nat → Hp → Prop, (∃ m, W 0 m (upd H1 Dn (.lst []))) ∧ ∀ i m H, W i m H →
      (J.stop i H ∧ Q H) ∨ (J.go i H ∧ ∃ Nx : Hp → Prop, (∀ H', Nx H' → ∃ m', m' < m ∧ W (i + 1) m' H') ∧ ∀ x H', J.yld i H x H' → tgT c.blk tg x (wipe σ own) H' fun σ2 H2 => wipe σ2 own = wipe σ own ∧ tIf' c.blk ifs cc σ2 H2 fun b H3 =>
        if b = true then tS c.blk false e σ2 H3 fun y H4 => ∃ acc, H4 Dn = some (.lst acc) ∧ acc.length < sizeLine ∧ Nx (upd H4 Dn (.lst (acc ++ [y]))) else Nx H3) := by
  refine lc_it (Qd := Q) hw (fun i H => ∃ (G2 : Hp) (ri : Env) (acc : List D) (accv : List V), Same G1 G2 ∧ SR c.K c.io (upd Fr Dn (.lst accv)) G2 (wipe σ own) H (wipeE ri own) ∧ RVs c.K G2 acc accv ∧ compLoop own tg (evl c cc) (evl c e) acc (xs.drop i) ri = .ok ys r2) ?_ ?_ ?_ ?_
  · refine ⟨G1, r1, [], [], Same.refl _, SR.wipe hio ?_, rfl, hl⟩
    exact ((S1.grow hD).addFr upd_same (S1.none_g hD) fun j q => S1.none_own hD j q)
  · rintro i H _ ⟨G2, ri, acc, accv, g, S, _, _⟩
    exact g.trans S.g
  · rintro i x H H' hi ⟨G2, ri, acc, accv, g, S, ra, hl⟩ y
    obtain ⟨G3, d, e1, g3, S3, rd⟩ := S.yield g y
    rw [drop_get e1] at hl
    have hl : (match tg.bind d (wipeE ri own) with
      | none => Out.stk
      | some r1 => (evl c cc r1).bind fun b r2 => match b with
        | [b] => match b.tru with
          | some true => (evl c e r2).bind fun y r3 => match y with
            | [y] => if acc.length < line then compLoop own tg (evl c cc) (evl c e) (acc ++ [y]) (xs.drop (i + 1)) r3 else .stk
            | _ => .stk
          | some false => compLoop own tg (evl c cc) (evl c e) acc (xs.drop (i + 1)) r2
          | none => .stk
        | _ => .stk) = .ok ys r2 := hl
    cases eb : tg.bind d (wipeE ri own) with
    | none => rw [eb] at hl; cases hl
    | some rb =>
      rw [eb] at hl
      refine ⟨d, _, rb, _, G3, S3, rd, eb, fun σ2 S4 w4 => ?_⟩
      have w2 := w4 own hsl
      have w2 : wipe σ2 own = wipe σ own := by
        rw [w2]
        refine List.ext_getElem? fun i => ?_
        by_cases hi : i ∈ own
        · rw [wipe_get.2 hi, wipe_get.2 hi, wipe_length]
        · rw [wipe_get.1 hi]
      refine ⟨w2, ?_⟩
      obtain ⟨bs, r4, ec, hl⟩ := bind_ok hl
      match bs, hl with
      | [], hl => cases hl
      | _ :: _ :: _, hl => cases hl
      | [b], hl =>
        dsimp only at hl
        -- the test
        have fin : ∀ (t : Bool) (H5 G5 : Hp), b.tru = some t → SR c.K c.io (upd Fr Dn (.lst accv)) G5 σ2 H5 r4 → Same G3 G5 → (fun (b : Bool) (H3 : Hp) => if b = true then tS c.blk false e σ2 H3 fun y H4 => ∃ acc, H4 Dn = some (.lst acc) ∧ acc.length < sizeLine ∧ (∃ (G2 : Hp) (ri : Env) (acc' : List D) (accv : List V), Same G1 G2 ∧ SR c.K c.io (upd Fr Dn (.lst accv)) G2 (wipe σ own) (upd H4 Dn (.lst (acc ++ [y]))) (wipeE ri own) ∧ RVs c.K G2 acc' accv ∧ compLoop own tg (evl c cc) (evl c e) acc' (xs.drop (i + 1)) ri = .ok ys r2)
            else ∃ (G2 : Hp) (ri : Env) (acc : List D) (accv : List V), Same G1 G2 ∧ SR c.K c.io (upd Fr Dn (.lst accv)) G2 (wipe σ own) H3 (wipeE ri own) ∧ RVs c.K G2 acc accv ∧ compLoop own tg (evl c cc) (evl c e) acc (xs.drop (i + 1)) ri = .ok ys r2) t H5 := by
          intro t H5 G5 et S5 g5
          rw [et] at hl
          cases t with
          | false =>
            refine ⟨G5, r4, acc, accv, (g.trans g3).trans g5, ?_, RVs.mono (g3.trans g5) ra, hl⟩
            have := SR.wipe hio S5
            rw [w2] at this
            exact this
          | true =>
            obtain ⟨vs, r5, ee, hl⟩ := bind_ok hl
            match vs, hl with
            | [], hl => cases hl
            | _ :: _ :: _, hl => cases hl
            | [v], hl =>
              dsimp only at hl
              split at hl
              · rename_i hz
                refine ⟨_, G5, r4, S5, ?_⟩
                show Res c.blk _ _ _ (evl c e r4) _
                rw [ee]
                refine ⟨v, rfl, fun y H6 G6 S6 g6 rv => ⟨accv, (S6.f _ _ upd_same).1, ?_, ?_⟩⟩
                · rw [RVs.len ra, ← line_eq]; exact hz
                · refine ⟨G6, r5, acc ++ [v], accv ++ [y], ((g.trans g3).trans g5).trans g6, ?_, RVs.snoc (RVs.mono ((g3.trans g5).trans g6) ra) rv, hl⟩
                  have := SR.wipe hio (S6.putFr (o' := .lst (accv ++ [y])))
                  rw [w2] at this
                  exact this
              · cases hl
        cases ifs with
        | nil =>
          have := hcc rfl
          subst this
          cases ec
          exact fin true _ G3 rfl S4 (Same.refl _)
        | cons i0 is =>
          refine ⟨_, G3, rb, S4, ?_⟩
          show Res c.blk _ _ _ ((evl c cc rb).bind fun x r1 => match x with
            | [x] => match x.tru with
              | some b => Out.ok b r1
              | none => .stk
            | _ => .stk) _
          rw [ec]
          show Res c.blk _ _ _ (match b.tru with
            | some b => Out.ok b r4
            | none => .stk) _
          cases et : b.tru with
          | none => rw [et] at hl; cases hl
          | some t => exact fun H5 G5 S5 g5 => fin t H5 G5 et S5 g5
  · rintro H ⟨G2, ri, acc, accv, g, S, ra, hl⟩
    rw [List.drop_length] at hl
    cases hl
    exact hQ H G2 accv S g ra
theorem comp_tLc (O : XOk X c k) {own : List Nat} {tg : MG} {it cc e : ME} {ifs : List Expr} {scope : Scope} {wi : TI} {Q : VK} (hb : blkChk k scope own = true) (hcc : ifs = [] → cc = .kst (.bl true)) (hsl : ∀ j ∈ tg.slots, j ∈ own)
    (hwi : ∀ σ H R, tI c it σ H R → wi σ H R) (q : tS c true (.comp own tg it cc e) σ H Q) : tLc wi (tgT c.blk tg) (tIf' c.blk ifs cc) (tS c.blk false e) ((ownP k own).map (·.2)) σ H Q := by
  obtain ⟨b1, b2, b3⟩ := BlkOk.of O hb
  have hio : ∀ j ∈ own, ∀ p ∈ c.io, p.1 ≠ j := fun j hj => io_out O.io (b3 j hj)
  rw [b2]
  refine hwi σ H _ ?_
  obtain ⟨Fr, G, r, S, q⟩ := q
  refine ⟨Fr, G, r, S, (Res.bind q).mono fun ds r1 q => ?_⟩
  match ds, q with
  | [], q => exact q.elim
  | _ :: _ :: _, q => exact q.elim
  | [x], q =>
    dsimp only at q
    cases ei : itemsD x with
    | none => rw [ei] at q; exact q.elim
    | some xs =>
      rw [ei] at q
      refine ⟨x, xs, rfl, ei, fun J G1 H1 S1 g1 hw Dn hD => ?_⟩
      dsimp only at q
      split at q
      · rename_i hf
        cases el : compLoop own tg (evl c cc) (evl c e) [] xs r1 with
        | stk => exact absurd q (by show ¬ Res c Fr G σ (((compLoop own tg (evl c cc) (evl c e) [] xs r1).nox).bind _) _; rw [el]; exact id)
        | err n fs r2 => exact absurd q (by show ¬ Res c Fr G σ (((compLoop own tg (evl c cc) (evl c e) [] xs r1).nox).bind _) _; rw [el]; exact id)
        | ok ys r2 =>
          have q : Res c Fr G σ (((compLoop own tg (evl c cc) (evl c e) [] xs r1).nox).bind fun ys r2 => Out.ok [D.lst ys] (backE r1 r2 own)) _ := q
          rw [el] at q
          obtain ⟨d, e1, q⟩ := q
          cases e1
          refine comp_walk hcc hsl hio S1 hw hD el fun H2 G2 accv S2 g2 ra => ?_
          have fD := S1.none_f hD
          obtain ⟨S3, n3⟩ := S2.offFr fD
          obtain ⟨S4, bk⟩ := S1.back S3 g2 hio hf
          refine q (.ref Dn) H2 G2 S4 (g1.trans g2) ?_
          obtain ⟨z1, z2⟩ := S2.f _ _ upd_same
          unfold SV FV
          rw [if_pos rfl, if_pos (show (D.lst ys).mutb = true from rfl)]
          exact ⟨Dn, rfl, ⟨accv, z1, ra⟩, z2, fD, fun j qo => n3 j (bk j Dn qo)⟩
      · exact q.elim
theorem pe_comp (O : XOk X c k) {own : List Nat} {tg : MG} {it cc e : ME} {elt tg' iter : Expr} {ifs : List Expr} {scope : Scope} {pos : Pos} (hb : blkChk k scope own = true) (hcc : ifs = [] → cc = .kst (.bl true)) (hsl : ∀ j ∈ tg.slots, j ∈ own) (hiter : isSet iter = false)
    (hsrc : Src c X tg' iter it) (htg : ∀ X', XOk X' c.blk (k.blk scope) → PG X' tg' (tgT c.blk tg)) (htt : ∀ X', XOk X' c.blk (k.blk scope) → PTs X' ifs (tIf' c.blk ifs cc)) (hee : ∀ X', XOk X' c.blk (k.blk scope) → PE X' elt (tS c.blk false e)) :
    PE X (.ListComp elt [⟨tg', iter, ifs, 0⟩] scope pos) (tS c true (.comp own tg it cc e)) := by
  obtain ⟨wi, hpi, hwi⟩ := hsrc
  obtain ⟨b1, b2, b3⟩ := BlkOk.of O hb
  have hX := fun s H C cl fp => O.blk b1.kind s H C cl fp
  exact peI (pe_lc O.g.calm (by rw [O.N]; exact O.nd) hpi b1 (fun s H C cl fp => htg _ (hX s H C cl fp)) (fun s H C cl fp => htt _ (hX s H C cl fp)) (fun s H C cl fp => hee _ (hX s H C cl fp)) (fun x => by cases iter <;> first | rfl | cases hiter)) fun σ H Q q => comp_tLc O hb hcc hsl hwi q
/-- name = [..] -/
theorem ps_comp (O : XOk X c k) {own : List Nat} {tg : MG} {it cc e : ME} {elt tg' iter : Expr} {ifs : List Expr} {scope : Scope} {pos py spos : Pos} {j : Nat} {y : Str} (hy : k.N[j]? = some y) (hyl : k.names.lookup y = some .local) (hl : (py.line == pos.line) = true)
    (hany : (scope.names.any fun (n, k) => n == y && (k == .local || k == .cell)) = false) (hb : blkChk k scope own = true) (hcc : ifs = [] → cc = .kst (.bl true)) (hsl : ∀ j ∈ tg.slots, j ∈ own) (hiter : isSet iter = false)
    (hsrc : Src c X tg' iter it) (htg : ∀ X', XOk X' c.blk (k.blk scope) → PG X' tg' (tgT c.blk tg)) (htt : ∀ X', XOk X' c.blk (k.blk scope) → PTs X' ifs (tIf' c.blk ifs cc)) (hee : ∀ X', XOk X' c.blk (k.blk scope) → PE X' elt (tS c.blk false e)) :
    PS X (.Assign [.Name y py] (.ListComp elt [⟨tg', iter, ifs, 0⟩] scope pos) spos) (tAsg (tS c true (.comp own tg it cc e)) (gName j)) := by
  obtain ⟨wi, hpi, hwi⟩ := hsrc
  obtain ⟨b1, b2, b3⟩ := BlkOk.of O hb
  have hX := fun s H C cl fp => O.blk b1.kind s H C cl fp
  have hyl' : X.env.scope.names.lookup y = some .local := by rw [O.nm]; exact hyl
  exact psI (ps_setLc O.g.calm (by rw [O.N]; exact O.nd) (by rw [O.N]; exact hy) hyl' (sw_true O.kind hyl' hl hany) hpi b1 (fun s H C cl fp => htg _ (hX s H C cl fp)) (fun s H C cl fp => htt _ (hX s H C cl fp)) (fun s H C cl fp => hee _ (hX s H C cl fp)) (fun x => by cases iter <;> first | rfl | cases hiter)) fun D σ H q => comp_tLc O hb hcc hsl hwi q
end
end VL

/-! VL14: the checker of expressions, and what it is worth. -/
namespace VL
open PySem PySem.Spec L2
inductive Md where
  | v | t | a | n | s (tup : Bool)
def isTup : Expr → Bool
  | .Tuple .. => true
  | _ => false
def isT2 : ME → Bool
  | .cons _ (.cons _ .nil) => true
  | _ => false
def isNil : ME → Bool
  | .nil => true
  | _ => false
def isTt : ME → Bool
  | .kst (.bl b) => b
  | _ => false
abbrev Ck := Md → CkE → List Expr → Bool
/-- a node that is one value: g as a value; a test or a source by it -/
def ckV (pl : Bool) (g : CkE → Expr → Bool) : Ck := fun md k es => match md, es with
  | .v, [e] => g k e
  | .s _, [e] => g k e
  | .t, [e] => pl && plainT e && g k e
  | _, _ => false
def ckOp (o : Op) (a : ME) (f : Ck) (k : CkE) (e : Expr) : Bool := match splitOp k o e with
  | some (pk, es) => f .a k es && (pk || noNm a)
  | none => false
def ckChain (o1 o2 : Op) (ab z : ME) (fab fz : Ck) (k : CkE) (e : Expr) : Bool := match e with
  | .Compare a0 [p1, p2] [b0, z0] _ => decide (cmpOp o1 = some p1) && decide (cmpOp o2 = some p2) && isT2 ab && z.one && fab .a k [a0, b0] && fz .v k [z0]
  | _ => false
def ckAndT (op : BoolOp) (a b : ME) (fa fb : Ck) (k : CkE) (e : Expr) : Bool := match e with
  | .BoolOp op' (x :: y :: rest) pos => decide (op = op') && fa .t k [x] && fb .t k [if rest.isEmpty then y else .BoolOp op' (y :: rest) pos]
  | _ => false
def ckAndV (op : BoolOp) (a b : ME) (fa fb : Ck) (k : CkE) (e : Expr) : Bool := match e with
  | .BoolOp op' (x :: y :: rest) pos => decide (op = op') && !isNm a && !isNm b && fa .v k [x] && fb .v k [if rest.isEmpty then y else .BoolOp op' (y :: rest) pos]
  | _ => false
def ckAnd (op : BoolOp) (a b : ME) (fa fb : Ck) : Ck := fun md k es => match md, es with
  | .t, [e] => ckAndT op a b fa fb k e
  | .v, [e] => ckAndV op a b fa fb k e
  | _, _ => false
def ckIte (a b : ME) (fc fa fb : Ck) (k : CkE) (e : Expr) : Bool := match e with
  | .IfExp ct x y _ => fc .t k [ct] && !isNm a && !isNm b && fa .v k [x] && fb .v k [y]
  | _ => false
def ckCall (P : Prog) (f : Nat) (sl : List Nat) (a : ME) (fa : Ck) (k : CkE) (e : Expr) : Bool := match e with
  | .Call (.Name x _) es [] _ => (match P.fs[f]? with
    | some fd => decide (k.FN[f]? = some x) && gl k x && !(x == ("__debug__" : Str)) && decide (ioSl fd.io a = some sl) && decide sl.Nodup && fa .a k es
    | none => false)
  | _ => false
def ckMop (o : MOp) (j : Nat) (a : ME) (fa : Ck) (k : CkE) (e : Expr) : Bool := match e with
  | .Call (.Attribute (.Name x _) m apos) [e] [] cpos => decide (o = .append) && decide (m = "append") && vis k j x && noNm a && (apos.endLine == cpos.line) && fa .a k [e]
  | _ => false
def ckComp (own : List Nat) (tg : MG) (cc e : ME) (fi fc fe : Ck) (k : CkE) (ex : Expr) : Bool := match ex with
  | .ListComp elt [⟨tg', iter, ifs, 0⟩] scope _ => blkChk k scope own && tg.slots.all (fun j => own.contains j) && !isSet iter && !tg.isL && chkG (k.blk scope) tg [tg'] && fi (.s (isTup tg')) k [iter] &&
    (match ifs with
      | [] => isTt cc
      | [t] => fc .t (k.blk scope) [t]
      | _ => false) && !isNm e && fe .v (k.blk scope) [elt]
  | _ => false
def ckSrc (o : Op) (a : ME) (f : Ck) (tup : Bool) (k : CkE) (e : Expr) : Bool := match o with
  | .range1 => (match e with
    | .Call (.Name g _) [x] [] _ => isGl k g "range" && f .a k [x]
    | _ => false)
  | .range2 => (match e with
    | .Call (.Name g _) [x, y] [] _ => isGl k g "range" && f .a k [x, y]
    | _ => false)
  | .enum => (match e with
    | .Call (.Name g _) [x] [] _ => tup && isGl k g "enumerate" && noNm a && f .a k [x]
    | _ => false)
  | o => ckOp o a f k e
def ckOpT (o : Op) (a : ME) (f : Ck) (k : CkE) (e : Expr) : Bool := if isCmp o then (match splitOp k o e with
    | some (_, es) => f .a k es
    | none => false) else (match e with
    | .UnaryOp .Not x _ => decide (o = .not_) && f .n k [x]
    | e => plainT e && ckOp o a f k e)
def chk (P : Prog) : ME → Ck
  | .kst d => ckV false fun _ e => kstOk d e
  | .glb i => ckV true fun k e => (match e with
    | .Name x _ => decide ((k.gt[i]?).map (·.1) = some x) && gl k x && !(x == ("__debug__" : Str))
    | _ => false)
  | .nm j => fun md k es => (match md, es with
    | .v, [.Name x _] => vis k j x
    | .t, [.Name x _] => vis k j x
    | _, _ => false)
  | .cap j => ckV true fun k e => (match e with
    | .Name x _ => vis k j x && !k.io.contains j
    | _ => false)
  | .nil => fun md k es => (match md, es with
    | .a, [] => true
    | _, _ => false)
  | .cons a m => fun md k es => (match md, es with
    | .a, e :: es => a.one && !isStar e && chk P a .v k [e] && chk P m .a k es
    | .n, [x] => isNil m && a.one && chk P a .t k [x]
    | _, _ => false)
  | .op o a => fun md k es => (match md, es with
    | .v, [e] => ckOp o a (chk P a) k e
    | .t, [e] => ckOpT o a (chk P a) k e
    | .s tup, [e] => ckSrc o a (chk P a) tup k e
    | _, _ => false)
  | .chain o1 o2 ab z => fun md k es => (match md, es with
    | .v, [e] => ckChain o1 o2 ab z (chk P ab) (chk P z) k e
    | .t, [e] => ckChain o1 o2 ab z (chk P ab) (chk P z) k e
    | _, _ => false)
  | .and_ a b => ckAnd .And a b (chk P a) (chk P b)
  | .or_ a b => ckAnd .Or a b (chk P a) (chk P b)
  | .ite c a b => ckV true (ckIte a b (chk P c) (chk P a) (chk P b))
  | .call f sl a => ckV true (ckCall P f sl a (chk P a))
  | .mop o j a => ckV false (ckMop o j a (chk P a))
  | .comp own tg it c e => ckV true (ckComp own tg c e (chk P it) (chk P c) (chk P e))

structure Snd (P : Prog) (m : ME) : Prop where
  v : ∀ {X : Cx} {c : Cfg} {k : CkE} {e : Expr}, XOk X c k → c.P = P → chk P m .v k [e] = true → VOk c X m e
  t : ∀ {X : Cx} {c : Cfg} {k : CkE} {e : Expr}, XOk X c k → c.P = P → chk P m .t k [e] = true → PT X e (tT c m)
  a : ∀ {X : Cx} {c : Cfg} {k : CkE} {es : List Expr}, XOk X c k → c.P = P → chk P m .a k es = true → ArgsOk c X m es
  n : ∀ {X : Cx} {c : Cfg} {k : CkE} {e : Expr}, XOk X c k → c.P = P → chk P m .n k [e] = true → ∃ b, m = .cons b .nil ∧ b.one = true ∧ PT X e (tT c b)
  s : ∀ {X : Cx} {c : Cfg} {k : CkE} {tg e : Expr}, XOk X c k → c.P = P → chk P m (.s (isTup tg)) k [e] = true → Src c X tg e m
section
variable {P : Prog} {X : Cx} {c : Cfg} {k : CkE}
theorem gl_of {x : Str} (h : gl k x = true) : k.names.lookup x = some .globalImplicit := by
  unfold gl at h
  split at h
  · assumption
  · cases h
theorem star_of {e : Expr} (h : isStar e = false) (env : PySem.Env) (es : List Expr) : starEach (e :: es) env = (false, eval e env) :: starEach es env := by
  cases e <;> first | rfl | cases h
theorem op_v (O : XOk X c k) (hP : c.P = P) {o : Op} {a : ME} {e : Expr} (ih : Snd P a) (h : ckOp o a (chk P a) k e = true) : VOk c X (.op o a) e := by
  unfold ckOp at h
  split at h
  · rename_i pk es hs
    simp only [Bool.and_eq_true, Bool.or_eq_true] at h
    refine VOk.of rfl (op_pe O.toXOk0 hs (ih.a O hP h.1) fun z => ?_)
    rcases h.2 with q | q
    · rw [z] at q; cases q
    · exact q
  · cases h
theorem call_v (O : XOk X c k) (hP : c.P = P) {f : Nat} {sl : List Nat} {a : ME} {e : Expr} (ih : Snd P a) (h : ckCall P f sl a (chk P a) k e = true) : VOk c X (.call f sl a) e := by
  unfold ckCall at h
  split at h
  · split at h
    · rename_i fd hf
      simp only [Bool.and_eq_true, decide_eq_true_eq, Bool.not_eq_true'] at h
      obtain ⟨⟨⟨⟨⟨h1, h2⟩, h3⟩, h4⟩, h5⟩, h6⟩ := h
      refine VOk.of rfl ?_
      have e : (ME.call f sl a).fr c.P = fd.rf := by
        show (match c.P.fs[f]? with
          | some fd => fd.rf
          | none => false) = _
        rw [hP, hf]
      rw [e]
      exact pe_call O (by rw [hP]; exact hf) h1 (gl_of h2) h3 h4 h5 (ih.a O hP h6)
    · cases h
  · cases h
theorem chain_vt (O : XOk X c k) (hP : c.P = P) {ab z : ME} (iab : Snd P ab) (iz : Snd P z) {o1 o2 : Op} {e : Expr} (h : ckChain o1 o2 ab z (chk P ab) (chk P z) k e = true) :
    PE X e (tS c true (.chain o1 o2 ab z)) ∧ PT X e (tT c (.chain o1 o2 ab z)) := by
  unfold ckChain at h
  split at h
  · rename_i a0 p1 p2 b0 z0 pos
    simp only [Bool.and_eq_true, decide_eq_true_eq] at h
    obtain ⟨⟨⟨⟨⟨h1, h2⟩, h3⟩, h4⟩, h5⟩, h6⟩ := h
    obtain ⟨a, b, rfl, g1, g2, q1, q2⟩ := (iab.a O hP h5).two
    obtain ⟨c1, _, _⟩ := cmp_isCmp h1
    obtain ⟨c2, n1, n2⟩ := cmp_isCmp h2
    have hm : lastMarks [p1, p2] [b0, z0] = false := nomark z0 n1 n2
    refine ⟨peI (pe_chain (cmp_op O.toXOk0 h1) (cmp_op O.toXOk0 h2) q1 q2 (iz.v O hP h6).p hm) fun σ H Q q => chain_core (p1 := p1) O.K c1 g1 g2 h4 q, ?_⟩
    refine ptI (pt_chain (cmp_op O.toXOk0 h1) (cmp_op O.toXOk0 h2) q1 q2 (iz.v O hP h6).p hm) fun σ H Q q => chain_core (p1 := p1) O.K c1 g1 g2 h4 (tT_tS ?_ q)
    intro r ds r' e
    obtain ⟨x, r1, _, e⟩ := bind_ok e
    split at e
    · split at e
      · obtain ⟨zz, r2, _, e⟩ := bind_ok e
        split at e
        · split at e
          · split at e
            · rename_i he
              cases e
              obtain ⟨b, rfl⟩ := ap_bl c2 _ _ he
              exact ⟨b, rfl⟩
            · cases e
          · cases e
        · cases e
      · cases e
        exact ⟨_, rfl⟩
      · cases e
    · cases e
  · cases h
theorem pw_rest {op : BoolOp} {y : Expr} {rest : List Expr} {pos : Pos} {t : TT} (h : PT X (if rest.isEmpty then y else .BoolOp op (y :: rest) pos) t) : PW X (.BoolOp op (y :: rest) pos) t := by
  cases rest with
  | nil =>
    cases op with
    | And => exact pw_and1 h
    | Or => exact pw_or1 h
  | cons z rest => exact ⟨fun wh pins s σ H Q I q => h.run pins s σ H Q I q⟩
theorem pe_rest {op : BoolOp} {y : Expr} {rest : List Expr} {pos : Pos} {t : TE} (h : PE X (if rest.isEmpty then y else .BoolOp op (y :: rest) pos) t) : PE X (.BoolOp op (y :: rest) pos) t := by
  cases rest with
  | nil => exact pe_one h
  | cons z rest => exact h
theorem src_of_v (O : XOk X c k) {m : ME} {tg e : Expr} (hm : isNm m = false) (h : VOk c X m e) : Src c X tg e m := src_any O.toXOk0 (pe_weak (h.2 hm))
/-- a node that is one value -/
theorem snd_v {m : ME} {pl : Bool} {g : CkE → Expr → Bool} (hm : isNm m = false) (hc : chk P m = ckV pl g) (h : ∀ {X : Cx} {c : Cfg} {k : CkE} {e : Expr}, XOk X c k → c.P = P → g k e = true → VOk c X m e) : Snd P m := by
  refine ⟨fun {X c k e} O hP q => ?_, fun {X c k e} O hP q => ?_, fun {X c k es} O hP q => ?_, fun {X c k e} O hP q => ?_, fun {X c k tg e} O hP q => ?_⟩
  · rw [hc] at q; exact h O hP q
  · rw [hc] at q
    have q : (pl && plainT e && g k e) = true := q
    simp only [Bool.and_eq_true] at q
    exact pt_of_v O.K q.1.2 (h O hP q.2)
  · rw [hc] at q
    rcases es with _ | ⟨e, _ | ⟨_, _⟩⟩ <;> cases q
  · rw [hc] at q; cases q
  · rw [hc] at q; exact src_of_v O hm (h O hP q)
theorem snd_and (a b : ME) (iha : Snd P a) (ihb : Snd P b) : Snd P (.and_ a b) := by
  have hv : ∀ {X : Cx} {c : Cfg} {k : CkE} {e : Expr}, XOk X c k → c.P = P → chk P (.and_ a b) .v k [e] = true → VOk c X (.and_ a b) e := fun {X c k e} O hP h => by
    have h : ckAndV .And a b (chk P a) (chk P b) k e = true := h
    unfold ckAndV at h
    split at h <;> try (cases h; done)
    simp only [Bool.and_eq_true, decide_eq_true_eq, Bool.not_eq_true'] at h
    obtain ⟨⟨⟨⟨rfl, h1⟩, h2⟩, h3⟩, h4⟩ := h
    refine VOk.of rfl ?_
    refine peI (pe_andT (pe_cast ((iha.v O hP h3).2 h1) fun z => ?_) (pe_cast (pe_rest ((ihb.v O hP h4).2 h2)) fun z => ?_)) fun σ H Q q => and_core O.K q
    · have z : (a.fr c.P && b.fr c.P) = true := z
      simp only [Bool.and_eq_true] at z
      exact z.1
    · have z : (a.fr c.P && b.fr c.P) = true := z
      simp only [Bool.and_eq_true] at z
      exact z.2
  refine ⟨hv, fun {X c k e} O hP h => ?_, fun {X c k es} O hP h => ?_, fun {X c k e} O hP h => ?_, fun {X c k tg e} O hP h => (by cases e <;> cases h)⟩
  · have h : ckAndT .And a b (chk P a) (chk P b) k e = true := h
    unfold ckAndT at h
    split at h <;> try (cases h; done)
    simp only [Bool.and_eq_true, decide_eq_true_eq] at h
    obtain ⟨⟨rfl, h3⟩, h4⟩ := h
    exact ptI (pw_and (iha.t O hP h3) (pw_rest (ihb.t O hP h4))).pt fun σ H Q q => tT_and q
  · rcases es with _ | ⟨e, _ | ⟨_, _⟩⟩ <;> cases h
  · cases h
theorem snd_or (a b : ME) (iha : Snd P a) (ihb : Snd P b) : Snd P (.or_ a b) := by
  have hv : ∀ {X : Cx} {c : Cfg} {k : CkE} {e : Expr}, XOk X c k → c.P = P → chk P (.or_ a b) .v k [e] = true → VOk c X (.or_ a b) e := fun {X c k e} O hP h => by
    have h : ckAndV .Or a b (chk P a) (chk P b) k e = true := h
    unfold ckAndV at h
    split at h <;> try (cases h; done)
    simp only [Bool.and_eq_true, decide_eq_true_eq, Bool.not_eq_true'] at h
    obtain ⟨⟨⟨⟨rfl, h1⟩, h2⟩, h3⟩, h4⟩ := h
    refine VOk.of rfl ?_
    refine peI (pe_orT (pe_cast ((iha.v O hP h3).2 h1) fun z => ?_) (pe_cast (pe_rest ((ihb.v O hP h4).2 h2)) fun z => ?_)) fun σ H Q q => or_core O.K q
    · have z : (a.fr c.P && b.fr c.P) = true := z
      simp only [Bool.and_eq_true] at z
      exact z.1
    · have z : (a.fr c.P && b.fr c.P) = true := z
      simp only [Bool.and_eq_true] at z
      exact z.2
  refine ⟨hv, fun {X c k e} O hP h => ?_, fun {X c k es} O hP h => ?_, fun {X c k e} O hP h => ?_, fun {X c k tg e} O hP h => (by cases e <;> cases h)⟩
  · have h : ckAndT .Or a b (chk P a) (chk P b) k e = true := h
    unfold ckAndT at h
    split at h <;> try (cases h; done)
    simp only [Bool.and_eq_true, decide_eq_true_eq] at h
    obtain ⟨⟨rfl, h3⟩, h4⟩ := h
    exact ptI (pw_or (iha.t O hP h3) (pw_rest (ihb.t O hP h4))).pt fun σ H Q q => tT_or q
  · rcases es with _ | ⟨e, _ | ⟨_, _⟩⟩ <;> cases h
  · cases h
theorem ite_v (O : XOk X c k) (hP : c.P = P) {cc a b : ME} {e : Expr} (ihc : Snd P cc) (iha : Snd P a) (ihb : Snd P b) (h : ckIte a b (chk P cc) (chk P a) (chk P b) k e = true) : VOk c X (.ite cc a b) e := by
  unfold ckIte at h
  split at h
  · simp only [Bool.and_eq_true, Bool.not_eq_true'] at h
    obtain ⟨⟨⟨⟨h1, h2⟩, h3⟩, h4⟩, h5⟩ := h
    refine VOk.of rfl (peI (pe_ifExp (ihc.t O hP h1) (pe_cast ((iha.v O hP h4).2 h2) fun z => ?_) (pe_cast ((ihb.v O hP h5).2 h3) fun z => ?_)) fun σ H Q q => ite_core q)
    · have z : (a.fr c.P && b.fr c.P) = true := z
      simp only [Bool.and_eq_true] at z
      exact z.1
    · have z : (a.fr c.P && b.fr c.P) = true := z
      simp only [Bool.and_eq_true] at z
      exact z.2
  · cases h
theorem mop_v (O : XOk X c k) (hP : c.P = P) {o : MOp} {j : Nat} {a : ME} {e : Expr} (ih : Snd P a) (h : ckMop o j a (chk P a) k e = true) : VOk c X (.mop o j a) e := by
  unfold ckMop at h
  split at h
  · simp only [Bool.and_eq_true, decide_eq_true_eq] at h
    obtain ⟨⟨⟨⟨⟨rfl, rfl⟩, h1⟩, h2⟩, h3⟩, h4⟩ := h
    exact VOk.of rfl (pe_append O.toXOk0 h1 h2 h3 (ih.a O hP h4))
  · cases h
theorem comp_v (O : XOk X c k) (hP : c.P = P) {own : List Nat} {tg : MG} {it cc e : ME} {ex : Expr} (ihi : Snd P it) (ihc : Snd P cc) (ihe : Snd P e) (h : ckComp own tg cc e (chk P it) (chk P cc) (chk P e) k ex = true) : VOk c X (.comp own tg it cc e) ex := by
  unfold ckComp at h
  split at h
  · rename_i elt tg' iter ifs scope pos
    simp only [Bool.and_eq_true, Bool.not_eq_true', List.all_eq_true] at h
    obtain ⟨⟨⟨⟨⟨⟨⟨⟨h1, h2⟩, h3⟩, h4⟩, h5⟩, h6⟩, h7⟩, h8⟩, h9⟩ := h
    refine VOk.of rfl (pe_comp O h1 (fun z => ?_) (fun j hj => by simpa using h2 j hj) h3 (ihi.s O hP h6) (fun X' O' => pg_T O'.toXOk0 h4 h5) (fun X' O' => ?_) fun X' O' => pe_weak ((ihe.v O' hP h9).2 h8))
    · subst z
      have h7 : isTt cc = true := h7
      unfold isTt at h7
      split at h7
      · subst h7; rfl
      · cases h7
    · match ifs, h7 with
      | [], h7 => exact pts_nil
      | [t], h7 => exact pts_one (ihc.t O' hP h7)
      | _ :: _ :: _, h7 => cases h7
  · cases h
theorem snd (P : Prog) : ∀ m : ME, Snd P m := by
  intro m
  induction m with
  | kst d => exact snd_v rfl rfl fun O hP h => VOk.of rfl (kst_pe h)
  | glb i =>
    refine snd_v rfl rfl fun {X c k e} O hP h => ?_
    cases e <;> try (cases h; done)
    simp only [Bool.and_eq_true, decide_eq_true_eq, Bool.not_eq_true'] at h
    obtain ⟨⟨h1, h2⟩, h3⟩ := h
    cases e1 : k.gt[i]? with
    | none => rw [e1] at h1; cases h1
    | some xd =>
      obtain ⟨x, d⟩ := xd
      rw [e1] at h1
      cases h1
      exact VOk.of rfl (pe_gt O.toXOk0 e1 (gl_of h2) h3)
  | nm j =>
    have hv : ∀ {X : Cx} {c : Cfg} {k : CkE} {x : Str} {p : Pos}, XOk X c k → vis k j x = true → VOk c X (.nm j) (.Name x p) := fun O h => ⟨fun _ => pe_nm O.toXOk0 h, fun z => by cases z⟩
    refine ⟨fun {X c k e} O hP h => ?_, fun {X c k e} O hP h => ?_, fun {X c k es} O hP h => ?_, fun {X c k e} O hP h => ?_, fun {X c k tg e} O hP h => ?_⟩
    · cases e <;> try (cases h; done)
      exact hv O h
    · cases e <;> try (cases h; done)
      exact pt_of_v O.K rfl (hv O h)
    · rcases es with _ | ⟨e, _ | ⟨_, _⟩⟩ <;> cases h
    · cases e <;> cases h
    · cases e <;> cases h
  | cap j =>
    refine snd_v rfl rfl fun {X c k e} O hP h => ?_
    cases e <;> try (cases h; done)
    simp only [Bool.and_eq_true, Bool.not_eq_true'] at h
    exact VOk.of rfl (pe_cap O.toXOk0 h.1 h.2)
  | nil =>
    refine ⟨fun {X c k e} O hP h => ?_, fun {X c k e} O hP h => ?_, fun {X c k es} O hP h => ?_, fun {X c k e} O hP h => ?_, fun {X c k tg e} O hP h => ?_⟩ <;> try (cases h; done)
    cases es with
    | nil => rfl
    | cons e es => cases h
  | cons a m iha ihm =>
    refine ⟨fun {X c k e} O hP h => ?_, fun {X c k e} O hP h => ?_, fun {X c k es} O hP h => ?_, fun {X c k e} O hP h => ?_, fun {X c k tg e} O hP h => ?_⟩ <;> try (cases h; done)
    · cases es with
      | nil => cases h
      | cons e es =>
        have h : (a.one && !isStar e && chk P a .v k [e] && chk P m .a k es) = true := h
        simp only [Bool.and_eq_true, Bool.not_eq_true'] at h
        obtain ⟨⟨⟨h1, h2⟩, h3⟩, h4⟩ := h
        exact ⟨h1, (iha.v O hP h3).p, fun env => star_of h2 env es, ihm.a O hP h4⟩
    · have h : (isNil m && a.one && chk P a .t k [e]) = true := h
      simp only [Bool.and_eq_true] at h
      obtain ⟨⟨h1, h2⟩, h3⟩ := h
      refine ⟨a, ?_, h2, iha.t O hP h3⟩
      cases m <;> first | rfl | cases h1
  | op o a ih =>
    refine ⟨fun {X c k e} O hP h => op_v O hP ih h, fun {X c k e} O hP h => ?_, fun {X c k es} O hP h => ?_, fun {X c k e} O hP h => ?_, fun {X c k tg e} O hP h => ?_⟩
    · have h : ckOpT o a (chk P a) k e = true := h
      unfold ckOpT at h
      split at h
      · rename_i ho
        split at h
        · rename_i hs
          exact op_pt O.toXOk0 ho hs (ih.a O hP h)
        · cases h
      · split at h
        · simp only [Bool.and_eq_true, decide_eq_true_eq] at h
          obtain ⟨rfl, h⟩ := h
          obtain ⟨b, rfl, h1, p⟩ := ih.n O hP h
          exact ptI (pt_not p) fun σ H Q q => tT_not h1 q
        · simp only [Bool.and_eq_true] at h
          exact pt_of_v O.K h.1 (op_v O hP ih h.2)
    · rcases es with _ | ⟨e, _ | ⟨_, _⟩⟩ <;> cases h
    · cases h
    · have h : ckSrc o a (chk P a) (isTup tg) k e = true := h
      unfold ckSrc at h
      split at h
      · split at h
        · simp only [Bool.and_eq_true] at h
          obtain ⟨rfl, g⟩ := isGl_of h.1
          exact src_range1 O.toXOk0 g (ih.a O hP h.2)
        · cases h
      · split at h
        · simp only [Bool.and_eq_true] at h
          obtain ⟨rfl, g⟩ := isGl_of h.1
          exact src_range2 O.toXOk0 g (ih.a O hP h.2)
        · cases h
      · split at h
        · simp only [Bool.and_eq_true] at h
          obtain ⟨⟨⟨h0, h1⟩, h2⟩, h3⟩ := h
          obtain ⟨rfl, g⟩ := isGl_of h1
          cases tg <;> try (cases h0; done)
          exact src_enum O.toXOk0 g h2 (ih.a O hP h3)
        · cases h
      · exact src_of_v O rfl (op_v O hP ih h)
  | chain o1 o2 ab z ihab ihz =>
    refine ⟨fun {X c k e} O hP h => VOk.of rfl (chain_vt O hP ihab ihz h).1, fun {X c k e} O hP h => (chain_vt O hP ihab ihz h).2, fun {X c k es} O hP h => ?_, fun {X c k e} O hP h => ?_, fun {X c k tg e} O hP h => ?_⟩
    · rcases es with _ | ⟨e, _ | ⟨_, _⟩⟩ <;> cases h
    · cases h
    · cases h
  | and_ a b iha ihb => exact snd_and a b iha ihb
  | or_ a b iha ihb => exact snd_or a b iha ihb
  | ite cc a b ihc iha ihb => exact snd_v rfl rfl fun O hP h => ite_v O hP ihc iha ihb h
  | call f sl a ih => exact snd_v rfl rfl fun O hP h => call_v O hP ih h
  | mop o j a ih => exact snd_v rfl rfl fun O hP h => mop_v O hP ih h
  | comp own tg it cc e ihi ihc ihe => exact snd_v rfl rfl fun O hP h => comp_v O hP ihi ihc ihe h
end
end VL

/-! VL15: statements. -/
namespace VL
open PySem PySem.Spec L2
def ResS {α : Type} (c : Cfg) (Fr G : Hp) (x : Out α) (ok : α → Env → Prop) : Prop :=
  match x with
  | .ok a r => ok a r
  | .err n fs r => ∀ (σ' : L2.St) (H' G' : Hp) (dx : Option Addr), SR c.K c.io Fr G' σ' H' r → Same G G' → XR c n fs dx G' H' → c.W (.ref (c.C n)) dx σ' H'
  | .stk => False
def RetV (c : Cfg) (rf : Bool) (Fr G H : Hp) (d : D) (v : V) : Prop :=
  if (rf && d.mutb) = true then ∃ a, v = .ref a ∧ OV c.K G H d a ∧ G a = none ∧ Fr a = none ∧ ∀ p ∈ c.io, p.2 ≠ a else RV c.K G d v
def SEnd (c : Cfg) (rf : Bool) (D : Ends) (Fr G : Hp) : Fl → Env → Prop
  | .nx, r => ∀ (σ' : L2.St) (H' G' : Hp), SR c.K c.io Fr G' σ' H' r → Same G G' → D.nx σ' H'
  | .bk, r => ∀ (σ' : L2.St) (H' G' : Hp), SR c.K c.io Fr G' σ' H' r → Same G G' → D.bk σ' H'
  | .ct, r => ∀ (σ' : L2.St) (H' G' : Hp), SR c.K c.io Fr G' σ' H' r → Same G G' → D.ct σ' H'
  | .ret d, r => ∀ (v : V) (σ' : L2.St) (H' G' : Hp), SR c.K c.io Fr G' σ' H' r → Same G G' → RetV c rf Fr G' H' d v → D.rt v H'
def tM (c : Cfg) (rf : Bool) (m : MS) : TS := fun D σ H => ∃ (Fr G : Hp) (r : Env), SR c.K c.io Fr G σ H r ∧ ResS c Fr G (m.ev shownD c.P c.cf rf r) (SEnd c rf D Fr G)
abbrev mev (c : Cfg) (rf : Bool) (m : MS) (r : Env) : Out Fl := m.ev shownD c.P c.cf rf r
structure XS (X : Cx) (c : Cfg) (k : CkE) : Prop extends XOk X c k where
  own : PassesOwn (model X.prog X.w) X.A X.env X.xe

section
variable {X : Cx} {c : Cfg} {k : CkE} {Fr G G' H H' : Hp} {σ : L2.St} {r : Env} {rf : Bool} {D D' : Ends}
theorem ResS.bind {α β : Type} {x : Out α} {f : α → Env → Out β} {ok : β → Env → Prop} (h : ResS c Fr G (x.bind f) ok) : ResS c Fr G x fun a r' => ResS c Fr G (f a r') ok := by
  cases x with
  | ok a r => exact h
  | err n fs r => exact h
  | stk => exact h
theorem ResS.mono {α : Type} {x : Out α} {ok ok' : α → Env → Prop} (h : ResS c Fr G x ok) (k : ∀ a r, ok a r → ok' a r) : ResS c Fr G x ok' := by
  cases x with
  | ok a r => exact k a r h
  | err n fs r => exact h
  | stk => exact h
theorem ResS.grow {α : Type} {x : Out α} {ok : α → Env → Prop} (h : ResS c Fr G x ok) (g : Same G G') : ResS c Fr G' x ok := by
  cases x with
  | ok a r => exact h
  | err n fs r => exact fun σ' H' G1 dx s q xr => h σ' H' G1 dx s (g.trans q) xr
  | stk => exact h
theorem ResS.at {α : Type} {x : Out α} {ok : α → Env → Prop} (h : ResS c Fr G x ok) (σ : L2.St) : Res c Fr G σ x ok := by
  cases x with
  | ok a r => exact h
  | err n fs r => exact fun H' G1 dx s q xr => h σ H' G1 dx s q xr
  | stk => exact h
theorem SEnd.grow {f : Fl} {r : Env} (h : SEnd c rf D Fr G f r) (g : Same G G') : SEnd c rf D Fr G' f r := by
  cases f with
  | nx => exact fun σ' H' G1 s q => h σ' H' G1 s (g.trans q)
  | bk => exact fun σ' H' G1 s q => h σ' H' G1 s (g.trans q)
  | ct => exact fun σ' H' G1 s q => h σ' H' G1 s (g.trans q)
  | ret d => exact fun v σ' H' G1 s q => h v σ' H' G1 s (g.trans q)
theorem SR.reads {io : List (Nat × Addr)} {K : PySem.W.Frag} (S : SR K io Fr G σ H r) {j : Nat} {d : VL.D} (h : r[j]? = some (.ow d)) : ∃ a, σ[j]? = some (some (.ref a)) ∧ ownAt σ r j a := by
  obtain ⟨a, e, _⟩ := S.s _ _ h
  exact ⟨a, e, e, d, .inl h⟩
theorem SR.io_ne (S : SR c.K c.io Fr G σ H r) {a : Addr} (h : ∀ j, ¬ ownAt σ r j a) : ∀ p ∈ c.io, p.2 ≠ a := fun p hp z => by
  obtain ⟨e, d, q⟩ := S.i p hp
  exact h p.1 ⟨by rw [e, z], d, q⟩
theorem SR.io_ne' (S : SR c.K c.io Fr G σ H r) {a : Addr} {j : Nat} (h : ownAt σ r j a) (hj : ∀ p ∈ c.io, p.1 ≠ j) : ∀ p ∈ c.io, p.2 ≠ a := fun p hp z => by
  obtain ⟨e, d, q⟩ := S.i p hp
  exact hj p hp (S.d p.1 j a ⟨by rw [e, z], d, q⟩ h)

/-! ### seq -/
theorem tM_seq {s t : MS} (h : tM c rf (.seq s t) D σ H) : tSeq (tM c rf s) (tM c rf t) D σ H := by
  obtain ⟨Fr, G, r, S, h⟩ := h
  refine ⟨Fr, G, r, S, (ResS.bind h).mono fun f r1 q => ?_⟩
  cases f with
  | nx =>
    intro σ' H' G' S' g
    have q : ResS c Fr G (mev c rf t r1) _ := q
    exact ⟨Fr, G', r1, S', (q.grow g).mono fun f r2 q => q.grow g⟩
  | bk => exact q
  | ct => exact q
  | ret d => exact q
theorem tM_nil (h : tM c rf .nil D σ H) : tNext D σ H := by
  obtain ⟨Fr, G, r, S, h⟩ := h
  exact h σ H G S (Same.refl _)

/-! ### name = e -/
theorem SV.put {fr : Bool} {d : VL.D} {v : V} {j : Nat} (S : SR c.K c.io Fr G σ H r) (hj : ∀ p ∈ c.io, p.1 ≠ j) (h : SV c.K fr Fr G H σ r d v) : SR c.K c.io Fr G (σ.set j (some v)) H (r.set j (if fr = true then mkSlot d else .fz d)) := by
  unfold SV at h
  cases fr with
  | false => exact S.setFz hj h
  | true =>
    have h : FV c.K Fr G H σ r d v := h
    unfold FV at h
    unfold mkSlot
    rw [if_pos rfl]
    split at h
    · rename_i hm
      obtain ⟨a, rfl, h1, h2, h3, h4⟩ := h
      rw [if_pos hm]
      exact S.setOw hj h1 h2 h3 h4
    · rename_i hm
      rw [if_neg hm]
      exact S.setFz hj h
theorem asg_core {j : Nat} {e : ME} (hio : ∀ p ∈ c.io, p.1 ≠ j) (h : tM c rf (.asg (.sl j) e) D σ H) : tAsg (tS c (e.fr c.P) e) (gName j) D σ H := by
  obtain ⟨Fr, G, r, S, h⟩ := h
  refine ⟨Fr, G, r, S, ((ResS.bind h).at σ).mono fun ds r1 q => ?_⟩
  match ds, q with
  | [], q => exact q.elim
  | _ :: _ :: _, q => exact q.elim
  | [d], q =>
    refine ⟨d, rfl, fun v H' G' S' g sv => ?_⟩
    have S2 := SV.put S' hio sv
    dsimp only at q
    have e1 : asgE (.sl j) (e.fr c.P) d r1 = some (r1.set j (if e.fr c.P = true then mkSlot d else .fz d)) := by
      cases e.fr c.P <;> rfl
    rw [e1] at q
    exact q _ H' G' S2 g
theorem asg_tup {g : MG} {e : ME} (h : tM c rf (.asg (.tup g) e) D σ H) : tAsg (tS c false e) (tgT c (.tup g)) D σ H := by
  obtain ⟨Fr, G, r, S, h⟩ := h
  refine ⟨Fr, G, r, S, ((ResS.bind h).at σ).mono fun ds r1 q => ?_⟩
  match ds, q with
  | [], q => exact q.elim
  | _ :: _ :: _, q => exact q.elim
  | [d], q =>
    refine ⟨d, rfl, fun v H' G' S' g' sv => ?_⟩
    dsimp only at q
    have e1 : asgE (.tup g) (e.fr c.P) d r1 = (MG.tup g).bind d r1 := by cases e.fr c.P <;> rfl
    rw [e1] at q
    cases e2 : (MG.tup g).bind d r1 with
    | none => rw [e2] at q; exact q.elim
    | some r2 =>
      rw [e2] at q
      exact ⟨d, r1, r2, Fr, G', S', sv, e2, fun σ' S2 _ => q σ' H' G' S2 g'⟩
theorem expr_core {e : ME} (h1 : e.one = true) (h : tM c rf (.expr e) D σ H) : tDrop (tS c (e.fr c.P) e) D σ H := by
  obtain ⟨Fr, G, r, S, h⟩ := h
  have q : Res c Fr G σ (evl c e r) _ := ((ResS.bind h).at σ)
  refine ⟨Fr, G, r, S, ?_⟩
  cases ev : evl c e r with
  | stk => rw [ev] at q; exact q.elim
  | err n fs r1 => rw [ev] at q; exact q
  | ok ds r1 =>
    rw [ev] at q
    obtain ⟨d, rfl⟩ := ME.one_ev h1 ev
    exact ⟨d, rfl, fun v H' G' S' g _ => q σ H' G' S' g⟩
/-! ### ret -/
theorem ret_core {e : ME} (hn : isNm e = false) (h : tM c rf (.ret e) D σ H) : tRet (tS c (e.fr c.P) e) D σ H := by
  obtain ⟨Fr, G, r, S, h⟩ := h
  have h : ResS c Fr G ((evl c e r).bind fun x r1 => match x with
      | [d] => if rf && !e.fr c.P && d.mutb then .stk else .ok (.ret d) r1
      | _ => .stk) (SEnd c rf D Fr G) := by
    cases e <;> first | exact h | cases hn
  refine ⟨Fr, G, r, S, ((ResS.bind h).at σ).mono fun ds r1 q => ?_⟩
  match ds, q with
  | [], q => exact q.elim
  | _ :: _ :: _, q => exact q.elim
  | [d], q =>
    refine ⟨d, rfl, fun v H' G' S' g sv => ?_⟩
    dsimp only at q
    split at q
    · exact q.elim
    · rename_i hm
      have q : SEnd c rf D Fr G (.ret d) r1 := q
      cases rf with
      | false =>
        obtain ⟨G2, g2, S2, rv⟩ := SV.frz S' sv
        exact q v σ H' G2 S2 (g.trans g2) rv
      | true =>
        refine q v σ H' G' S' g ?_
        unfold RetV
        unfold SV at sv
        split at sv
        · unfold FV at sv
          split at sv
          · rename_i hd
            obtain ⟨a, rfl, h1, h2, h3, h4⟩ := sv
            rw [if_pos (by rw [hd]; rfl)]
            exact ⟨a, rfl, h1, h2, h3, S'.io_ne h4⟩
          · rename_i hd
            rw [if_neg (by simpa using hd)]
            exact sv
        · rename_i hf
          rw [if_neg ?_]
          · exact sv
          · intro hd
            simp only [Bool.true_and] at hd
            apply hm
            rw [hd]
            have : e.fr c.P = false := by simpa using hf
            rw [this]
            rfl
theorem ret_nm {j : Nat} (hio : ∀ p ∈ c.io, p.1 ≠ j) (h : tM c rf (.ret (.nm j)) D σ H) : tRet (tVar j) D σ H := by
  obtain ⟨Fr, G, r, S, h⟩ := h
  have h : ResS c Fr G (match rf, r[j]? with
      | true, some (.ow d) => Out.ok (.ret d) r
      | true, some (.fz d) => if d.mutb then .stk else .ok (.ret d) r
      | false, some (.ow d) => .ok (.ret d) (r.set j (.fz d))
      | false, some (.fz d) => .ok (.ret d) r
      | _, _ => .stk) (SEnd c rf D Fr G) := h
  cases e : r[j]? with
  | none => rw [e] at h; cases rf <;> exact h.elim
  | some s =>
    rw [e] at h
    cases s with
    | un => cases rf <;> exact h.elim
    | lk d => cases rf <;> exact h.elim
    | fz d =>
      obtain ⟨v, hv, rv⟩ := S.s _ _ e
      cases rf with
      | false => exact ⟨v, hv, h v σ H G S (Same.refl _) rv⟩
      | true =>
        have h : ResS c Fr G (if d.mutb = true then Out.stk else .ok (.ret d) r) (SEnd c true D Fr G) := h
        split at h
        · exact h.elim
        · rename_i hm
          refine ⟨v, hv, h v σ H G S (Same.refl _) ?_⟩
          unfold RetV
          rw [if_neg (by simpa using hm)]
          exact rv
    | ow d =>
      obtain ⟨a, hv, g0, f0, ov⟩ := S.s _ _ e
      cases rf with
      | true =>
        refine ⟨_, hv, h _ σ H G S (Same.refl _) ?_⟩
        unfold RetV
        rw [if_pos (by rw [ov.mutb]; rfl)]
        exact ⟨a, rfl, ov, g0, f0, S.io_ne' ⟨hv, d, .inl e⟩ hio⟩
      | false =>
        obtain ⟨a', o, h1, h2, h3, S', rv⟩ := S.cap hio e
        exact ⟨_, h1, h _ σ H _ S' (same_upd h2) rv⟩

/-! ### if, for, while -/
theorem tT_of {cc : ME} {Q : Bool → Hp → Prop} (S : SR c.K c.io Fr G σ H r) (h : ResS c Fr G (evC shownD c.P c.cf cc r) fun b r1 => ∀ (H' G' : Hp), SR c.K c.io Fr G' σ H' r1 → Same G G' → Q b H') : tT c cc σ H Q := ⟨Fr, G, r, S, h.at σ⟩
theorem if_core {cc : ME} {a b : MS} (h : tM c rf (.ife cc a b) D σ H) : tIfS (tT c cc) (tM c rf a) (tM c rf b) D σ H := by
  obtain ⟨Fr, G, r, S, h⟩ := h
  refine ⟨Fr, G, r, S, ((ResS.bind h).mono fun t r1 q => ?_).at σ⟩
  intro H' G' S' g
  cases t with
  | true =>
    have q : ResS c Fr G (mev c rf a r1) _ := q
    exact ⟨Fr, G', r1, S', (q.grow g).mono fun f r2 q => q.grow g⟩
  | false =>
    have q : ResS c Fr G (mev c rf b r1) _ := q
    exact ⟨Fr, G', r1, S', (q.grow g).mono fun f r2 q => q.grow g⟩
theorem for_core {tg : MG} {it : ME} {body : MS} {wi : TI} (hwi : ∀ σ H R, tI c it σ H R → wi σ H R) (h : tM c rf (.for_ tg it body) D σ H) : tFor wi (tgT c tg) (tM c rf body) D σ H := by
  refine hwi σ H _ ?_
  obtain ⟨Fr, G, r, S, h⟩ := h
  refine ⟨Fr, G, r, S, ((ResS.bind h).mono fun ds r1 q => ?_).at σ⟩
  match ds, q with
  | [], q => exact q.elim
  | _ :: _ :: _, q => exact q.elim
  | [x], q =>
    dsimp only at q
    cases ei : itemsD x with
    | none => rw [ei] at q; exact q.elim
    | some xs =>
      rw [ei] at q
      refine ⟨x, xs, rfl, ei, fun J G1 H1 S1 g1 hw => ?_⟩
      refine for_it hw (fun i σ H => ∃ (G2 : Hp) (r : Env), Same G1 G2 ∧ SR c.K c.io Fr G2 σ H r ∧ ResS c Fr G2 (forLoop tg (mev c rf body) (xs.drop i) r) (SEnd c rf D Fr G2)) ?_ ?_ ?_ ?_
      · have q : ResS c Fr G (forLoop tg (mev c rf body) xs r1) _ := q
        exact ⟨G1, r1, Same.refl _, S1, (q.grow g1).mono fun f r2 q => q.grow g1⟩
      · rintro i σ' H' _ ⟨G2, r2, g, S2, _⟩
        exact g.trans S2.g
      · rintro i v σ' H2 H3 hi ⟨G2, r2, g, S2, q⟩ y
        obtain ⟨G3, d, e1, g3, S3, rd⟩ := S2.yield g y
        rw [drop_get e1] at q
        have q : ResS c Fr G2 (match tg.bind d r2 with
          | none => Out.stk
          | some r1 => (mev c rf body r1).bind fun f r2 => match f with
            | .nx => forLoop tg (mev c rf body) (xs.drop (i + 1)) r2
            | .ct => forLoop tg (mev c rf body) (xs.drop (i + 1)) r2
            | .bk => .ok .nx r2
            | .ret d => .ok (.ret d) r2) (SEnd c rf D Fr G2) := q
        cases eb : tg.bind d r2 with
        | none => rw [eb] at q; exact q.elim
        | some r3 =>
          rw [eb] at q
          refine ⟨d, r2, r3, Fr, G3, S3, rd, eb, fun σ4 S4 _ => ⟨Fr, G3, r3, S4, ((ResS.bind q).grow g3).mono fun f r5 q => ?_⟩⟩
          cases f with
          | nx =>
            intro σ5 H5 G5 S5 g5
            have q : ResS c Fr G2 (forLoop tg (mev c rf body) (xs.drop (i + 1)) r5) _ := q
            exact ⟨G5, r5, (g.trans g3).trans g5, S5, (q.grow (g3.trans g5)).mono fun f r q => q.grow (g3.trans g5)⟩
          | ct =>
            intro σ5 H5 G5 S5 g5
            have q : ResS c Fr G2 (forLoop tg (mev c rf body) (xs.drop (i + 1)) r5) _ := q
            exact ⟨G5, r5, (g.trans g3).trans g5, S5, (q.grow (g3.trans g5)).mono fun f r q => q.grow (g3.trans g5)⟩
          | bk => exact fun σ5 H5 G5 S5 g5 => q σ5 H5 G5 S5 (g3.trans g5)
          | ret d => exact fun v σ5 H5 G5 S5 g5 => q v σ5 H5 G5 S5 (g3.trans g5)
      · rintro σ' H' ⟨G2, r2, g, S2, q⟩
        rw [List.drop_length] at q
        exact q σ' H' G2 S2 (Same.refl _)
theorem whl_core {n : Nat} {cc : ME} {body : MS} (h : tM c rf (.whl n cc body) D σ H) : tWhile (tT c cc) (tM c rf body) D σ H := by
  obtain ⟨Fr, G, r, S, h⟩ := h
  refine ⟨fun m σ H => ∃ (G2 : Hp) (r : Env), SR c.K c.io Fr G2 σ H r ∧ ResS c Fr G2 (whlLoop (evC shownD c.P c.cf cc) (mev c rf body) m r) (SEnd c rf D Fr G2), ⟨n, G, r, S, h⟩, ?_⟩
  rintro m σ1 H1 ⟨G2, r1, S1, q⟩
  cases m with
  | zero => exact q.elim
  | succ m =>
    refine ⟨Fr, G2, r1, S1, ((ResS.bind q).mono fun t r2 q => ?_).at σ1⟩
    intro H' G' S' g
    cases t with
    | false => exact q σ1 H' G' S' g
    | true =>
      rw [if_pos rfl]
      have q := (ResS.bind q).grow g
      refine ⟨_, fun σ' H' n => ⟨m, Nat.lt_succ_self _, n⟩, Fr, G', r2, S', q.mono fun f r3 q => ?_⟩
      cases f with
      | nx =>
        intro σ5 H5 G5 S5 g5
        have q : ResS c Fr G2 (whlLoop (evC shownD c.P c.cf cc) (mev c rf body) m r3) _ := q
        exact ⟨G5, r3, S5, (q.grow (g.trans g5)).mono fun f r q => q.grow (g.trans g5)⟩
      | ct =>
        intro σ5 H5 G5 S5 g5
        have q : ResS c Fr G2 (whlLoop (evC shownD c.P c.cf cc) (mev c rf body) m r3) _ := q
        exact ⟨G5, r3, S5, (q.grow (g.trans g5)).mono fun f r q => q.grow (g.trans g5)⟩
      | bk => exact fun σ5 H5 G5 S5 g5 => q σ5 H5 G5 S5 (g.trans g5)
      | ret d => exact fun v σ5 H5 G5 S5 g5 => q v σ5 H5 G5 S5 (g.trans g5)

/-! ### a[i] = v -/
theorem seti_core {j : Nat} {ke v : ME} (h1 : v.one = true) (h2 : ke.one = true) (h : tM c rf (.seti j ke v) D σ H) : tAsg (tS c false v) (gSub (tVar j) (tS c false ke) rSetL) D σ H := by
  obtain ⟨Fr, G, r, S, h⟩ := h
  have h : ResS c Fr G (match r[j]? with
    | some (.ow (.lst _)) => (evl c v r).bind fun x r1 => (evl c ke r1).bind fun y r2 => match x, y, owned r2 j with
      | [v], [k], some d => match MOp.seti.ap d [k, v] with
        | some (_, d') => Out.ok .nx (r2.set j (.ow d'))
        | none => .stk
      | _, _, _ => .stk
    | _ => .stk) (SEnd c rf D Fr G) := h
  split at h
  · rename_i z0 e0
    obtain ⟨p0, e1, own0⟩ := S.reads e0
    have q := (ResS.bind h).at σ
    refine ⟨Fr, G, r, S, ?_⟩
    cases ev : evl c v r with
    | stk => rw [ev] at q; exact q.elim
    | err n fs r1 => rw [ev] at q; exact q
    | ok xs r1 =>
      rw [ev] at q
      obtain ⟨dv, rfl⟩ := ME.one_ev h1 ev
      refine ⟨dv, rfl, fun vv H1 G1 S1 g1 sv => ⟨_, e1, Fr, G1, r1, S1, ?_⟩⟩
      have q : ResS c Fr G ((evl c ke r1).bind fun y r2 => match [dv], y, owned r2 j with
        | [v], [k], some d => match MOp.seti.ap d [k, v] with
          | some (_, d') => Out.ok .nx (r2.set j (.ow d'))
          | none => .stk
        | _, _, _ => .stk) (SEnd c rf D Fr G) := q
      have q := ((ResS.bind q).grow g1).at σ
      cases ek : evl c ke r1 with
      | stk => rw [ek] at q; exact q.elim
      | err n fs r2 => rw [ek] at q; exact q
      | ok ys r2 =>
        rw [ek] at q
        obtain ⟨dk, rfl⟩ := ME.one_ev h2 ek
        refine ⟨dk, rfl, fun vk H2 G2 S2 g2 sk => ?_⟩
        cases e4 : owned r2 j with
        | none =>
          have q : ResS c Fr G (match [dv], [dk], owned r2 j with
            | [v], [k], some d => match MOp.seti.ap d [k, v] with
              | some (_, d') => Out.ok .nx (r2.set j (.ow d'))
              | none => .stk
            | _, _, _ => .stk) (SEnd c rf D Fr G) := q
          rw [e4] at q
          exact q.elim
        | some d =>
          have q : ResS c Fr G (match [dv], [dk], owned r2 j with
            | [v], [k], some d => match MOp.seti.ap d [k, v] with
              | some (_, d') => Out.ok .nx (r2.set j (.ow d'))
              | none => .stk
            | _, _, _ => .stk) (SEnd c rf D Fr G) := q
          rw [e4] at q
          have q : ResS c Fr G (match MOp.seti.ap d [dk, dv] with
              | some (_, d') => Out.ok .nx (r2.set j (.ow d'))
              | none => .stk) (SEnd c rf D Fr G) := q
          have hr : r2[j]? = some (.ow d) := by
            unfold owned at e4
            split at e4
            · cases e4; assumption
            · cases e4
          match d, dk, q, sk with
          | .lst xs, .int i, q, sk =>
            have q : ResS c Fr G (match (if 0 ≤ i ∧ i < xs.length then some (VL.D.non, VL.D.lst (xs.set i.toNat dv)) else none) with
              | some (_, d') => Out.ok .nx (r2.set j (.ow d'))
              | none => .stk) (SEnd c rf D Fr G) := q
            by_cases hz : 0 ≤ i ∧ i < xs.length
            · rw [if_pos hz] at q
              cases (show vk = .int i from sk)
              obtain ⟨p1, e6, ga, fa, ws, e7, rvw⟩ := S2.s _ _ hr
              rw [e1] at e6
              cases e6
              have hlen := RVs.len rvw
              refine ⟨p0, ws, i, i.toNat, rfl, rfl, e7, ?_, ?_⟩
              · unfold ixN
                rw [if_pos hz.1, hlen, if_pos hz.2]
              · have sv : RV c.K G1 dv vv := sv
                exact q σ _ G2 (S2.put e1 hr ⟨_, upd_same, RVs.set _ rvw (sv.mono g2)⟩) (g1.trans g2)
            · rw [if_neg hz] at q
              exact q.elim
          | .non, _, q, _ | .bl _, _, q, _ | .int _, _, q, _ | .str _, _, q, _ | .tup _, _, q, _ | .dct _, _, q, _ => exact q.elim
          | .lst _, .non, q, _ | .lst _, .bl _, q, _ | .lst _, .str _, q, _ | .lst _, .tup _, q, _ | .lst _, .lst _, q, _ | .lst _, .dct _, q, _ => exact q.elim
  · exact h.elim
end

/-! ### the checker of statements -/
def isComp : Expr → Bool
  | .ListComp .. => true
  | .SetComp .. => true
  | .DictComp .. => true
  | _ => false
def isDisp : Expr → Bool
  | .Tuple .. => true
  | .List .. => true
  | _ => false
def isLst : MS → Bool
  | .nil => true
  | .seq _ _ => true
  | _ => false
/-- y = [..] on one line -/
def swapOk (k : CkE) (y : Str) (py : Pos) : Expr → Bool
  | .ListComp _ _ scope pos => decide (k.names.lookup y = some .local) && (py.line == pos.line) && !(scope.names.any fun (n, k) => n == y && (k == .local || k == .cell))
  | _ => false
def sole : List Expr → Option Expr
  | [e] => some e
  | _ => none
theorem sole_of {tgs : List Expr} {tg : Expr} (h : sole tgs = some tg) : tgs = [tg] := by
  unfold sole at h
  split at h <;> cases h
  rfl
def swapNo (k : CkE) (y : Str) : Bool := match k.names.lookup y with
  | some .cell => true
  | _ => false
def isCompM : ME → Bool
  | .comp .. => true
  | _ => false
def ckAsg (g : MG) (e : ME) (f : Ck) (k : CkE) (tg ex : Expr) : Bool := match tg with
  | .Name y py => (match g with
    | .sl j => decide (k.N[j]? = some y) && rawOk k y && !k.io.contains j && !isNm e && f .v k [ex] && (!isComp ex || swapNo k y || (isCompM e && swapOk k y py ex))
    | _ => false)
  | .Tuple es kk pt => (match g with
    | .tup g => chkG k (.tup g) [.Tuple es kk pt] && !isNm e && f .v k [ex] && !isDisp ex && !isComp ex
    | _ => false)
  | _ => false
def ckSeti (j : Nat) (ke v : ME) (fk fv : Ck) (k : CkE) (tg ex : Expr) : Bool := match tg with
  | .Subscript (.Name x _) ix _ => vis k j x && plainIx ix && !isComp ex && ke.one && v.one && !isNm ke && !isNm v && fv .v k [ex] && fk .v k [ix]
  | _ => false
def chkS (P : Prog) : MS → CkE → List Stmt → Bool
  | .nil => fun _ sts => (match sts with
    | [] => true
    | _ => false)
  | .seq s t => fun k sts => (match sts with
    | st :: rest => !isLst s && isLst t && chkS P s k [st] && chkS P t k rest
    | _ => false)
  | .asg g e => fun k sts => (match sts with
    | [.Assign tgs ex _] => (match sole tgs with
      | some tg => ckAsg g e (chk P e) k tg ex
      | none => false)
    | _ => false)
  | .par _ _ _ _ => fun _ _ => false
  | .expr e => fun k sts => (match sts with
    | [.Expr ex _] => e.one && !isNm e && !isComp ex && chk P e .v k [ex]
    | _ => false)
  | .aug _ _ _ => fun _ _ => false
  | .seti j ke v => fun k sts => (match sts with
    | [.Assign tgs ex _] => (match sole tgs with
      | some tg => ckSeti j ke v (chk P ke) (chk P v) k tg ex
      | none => false)
    | _ => false)
  | .ret e => fun k sts => (match sts with
    | [.Return (some ex) _] => (match e, ex with
      | .nm j, .Name x _ => vis k j x && !k.io.contains j
      | e, ex => !isNm e && chk P e .v k [ex])
    | _ => false)
  | .retN => fun _ sts => (match sts with
    | [.Return none _] => true
    | _ => false)
  | .ife cc a b => fun k sts => (match sts with
    | [.If ct xs ys _] => isLst a && isLst b && chk P cc .t k [ct] && chkS P a k xs && chkS P b k ys
    | _ => false)
  | .for_ tg it body => fun k sts => (match sts with
    | [.For tg' iter bs [] _] => isLst body && !tg.isL && chkG k tg [tg'] && !isSet iter && chk P it (.s (isTup tg')) k [iter] && chkS P body k bs
    | _ => false)
  | .whl _ cc body => fun k sts => (match sts with
    | [.While ct bs [] _] => isLst body && chk P cc .t k [ct] && chkS P body k bs
    | _ => false)
  | .brk => fun _ sts => (match sts with
    | [.Break _] => true
    | _ => false)
  | .cont => fun _ sts => (match sts with
    | [.Continue _] => true
    | _ => false)
  | .pass => fun _ sts => (match sts with
    | [.Pass _] => true
    | _ => false)
  | .raise _ _ => fun _ _ => false
  | .try_ _ _ _ _ => fun _ _ => false
section
variable {P : Prog} {X : Cx} {c : Cfg} {k : CkE} {rf : Bool}
theorem noswap {ex : Expr} (h : isComp ex = false) (tg : Option Expr) (l : Nat) (env : PySem.Env) : swapsWith ex tg l env = pure false := by
  cases ex <;> first | rfl | cases h
theorem noswapS {tg ex : Expr} {l : Nat} {env : PySem.Env} (h : isComp ex = false) : swapsWithSole [tg] ex l env = pure false := noswap h (some tg) l env
theorem comp_asg (O : XS X c k) (hP : c.P = P) {own : List Nat} {tg : MG} {it cc e : ME} {ex : Expr} {j : Nat} {y : Str} {py spos : Pos} (h1 : k.N[j]? = some y) (h : ckComp own tg cc e (chk P it) (chk P cc) (chk P e) k ex = true) (hs : swapOk k y py ex = true) :
    PS X (.Assign [.Name y py] ex spos) (tAsg (tS c true (.comp own tg it cc e)) (gName j)) := by
  unfold ckComp at h
  split at h
  · rename_i elt tg' iter ifs scope pos
    simp only [Bool.and_eq_true, Bool.not_eq_true', List.all_eq_true] at h
    obtain ⟨⟨⟨⟨⟨⟨⟨⟨g1, g2⟩, g3⟩, g4⟩, g5⟩, g6⟩, g7⟩, g8⟩, g9⟩ := h
    have hs : (decide (k.names.lookup y = some .local) && (py.line == pos.line) && !(scope.names.any fun (n, k) => n == y && (k == .local || k == .cell))) = true := hs
    simp only [Bool.and_eq_true, decide_eq_true_eq, Bool.not_eq_true'] at hs
    obtain ⟨⟨s1, s2⟩, s3⟩ := hs
    refine ps_comp O.toXOk h1 s1 s2 s3 g1 (fun z => ?_) (fun j hj => by simpa using g2 j hj) g3 ((snd P it).s O.toXOk hP g6) (fun X' O' => pg_T O'.toXOk0 g4 g5) (fun X' O' => ?_) fun X' O' => pe_weak (((snd P e).v O' hP g9).2 g8)
    · subst z
      have g7 : isTt cc = true := g7
      unfold isTt at g7
      split at g7
      · subst g7; rfl
      · cases g7
    · match ifs, g7 with
      | [], g7 => exact pts_nil
      | [t], g7 => exact pts_one ((snd P cc).t O' hP g7)
      | _ :: _ :: _, g7 => cases g7
  · cases h
/-- one statement, or a list of them -/
structure SndS (P : Prog) (m : MS) : Prop where
  one : ∀ {X : Cx} {c : Cfg} {k : CkE} {rf : Bool} {st : Stmt}, XS X c k → c.P = P → isLst m = false → chkS P m k [st] = true → PS X st (tM c rf m)
  all : ∀ {X : Cx} {c : Cfg} {k : CkE} {rf : Bool} {sts : List Stmt}, XS X c k → c.P = P → isLst m = true → chkS P m k sts = true → PSs X sts (tM c rf m)
theorem swapNo_of (O : XOk X c k) {y : Str} (h : swapNo k y = true) {py : Pos} {l : Nat} {ex : Expr} : swapsWith ex (some (.Name y py)) l X.env = pure false := by
  have ky : X.env.kindOf y = some .cell := by
    show X.env.scope.names.lookup y = _
    rw [O.nm]
    unfold swapNo at h
    split at h
    · assumption
    · cases h
  cases ex <;> first
    | rfl
    | (unfold swapsWith
       simp only [ky]
       have e : (some NameKind.cell == some NameKind.local) = false := rfl
       simp only [e, Bool.and_false, Bool.false_and]
       try rfl)
theorem raw_at (O : XOk0 X c k) {y : Str} (h : rawOk k y = true) : Loc X.env.scope y ∧ (X.fn y = true ∨ X.env.scope.names.lookup y = some .local) := O.raw y (rawOk_of h)
theorem asg_s (O : XS X c k) (hP : c.P = P) {g : MG} {e : ME} {st : Stmt} (h : chkS P (.asg g e) k [st] = true) : PS X st (tM c rf (.asg g e)) := by
  cases st <;> try (cases h; done)
  rename_i tgs ex spos
  have h : (match sole tgs with
      | some tg => ckAsg g e (chk P e) k tg ex
      | none => false) = true := h
  cases hs : sole tgs with
  | none => rw [hs] at h; cases h
  | some tg =>
    rw [hs] at h
    obtain rfl := sole_of hs
    have h : ckAsg g e (chk P e) k tg ex = true := h
    unfold ckAsg at h
    split at h
    · rename_i y py
      split at h
      · rename_i j
        simp only [Bool.and_eq_true, decide_eq_true_eq, Bool.not_eq_true', Bool.or_eq_true] at h
        obtain ⟨⟨⟨⟨⟨h1, h2⟩, h3⟩, h4⟩, h5⟩, h6⟩ := h
        obtain ⟨q1, q2⟩ := raw_at O.toXOk0 h2
        have hio := io_out O.io h3
        cases hc : isComp ex with
        | false => exact psI (ps_set (by rw [O.N]; exact O.nd) (by rw [O.N]; exact h1) q1 (((snd P e).v O.toXOk hP h5).2 h4) (noswap hc _ _ _) q2) fun D σ H q => asg_core hio q
        | true =>
          rcases h6 with (z | z) | ⟨hm, hsw⟩
          · rw [hc] at z; cases z
          · exact psI (ps_set (by rw [O.N]; exact O.nd) (by rw [O.N]; exact h1) q1 (((snd P e).v O.toXOk hP h5).2 h4) (swapNo_of O.toXOk z) q2) fun D σ H q => asg_core hio q
          cases ex <;> try (cases hsw; done)
          rename_i elt gens scope pos
          cases e <;> try (cases hm; done)
          rename_i own tgm it cc e
          have h5 : ckComp own tgm cc e (chk P it) (chk P cc) (chk P e) k (.ListComp elt gens scope pos) = true := h5
          exact psI (comp_asg O hP h1 h5 hsw) fun D σ H q => asg_core hio q
      · cases h
    · rename_i es kk pt
      split at h
      · rename_i g
        simp only [Bool.and_eq_true, Bool.not_eq_true'] at h
        obtain ⟨⟨⟨⟨h1, h2⟩, h3⟩, h4⟩, h5⟩ := h
        exact psI (ps_asg (pe_weak (((snd P e).v O.toXOk hP h3).2 h2)) (pg_T O.toXOk0 rfl h1) (noswapS h5) (by cases ex <;> first | rfl | cases h4) rfl) fun D σ H q => asg_tup q
      · cases h
    · cases h
theorem seti_s (O : XS X c k) (hP : c.P = P) {j : Nat} {ke v : ME} {st : Stmt} (h : chkS P (.seti j ke v) k [st] = true) : PS X st (tM c rf (.seti j ke v)) := by
  cases st <;> try (cases h; done)
  rename_i tgs ex spos
  have h : (match sole tgs with
      | some tg => ckSeti j ke v (chk P ke) (chk P v) k tg ex
      | none => false) = true := h
  cases hs : sole tgs with
  | none => rw [hs] at h; cases h
  | some tg =>
    rw [hs] at h
    obtain rfl := sole_of hs
    have h : ckSeti j ke v (chk P ke) (chk P v) k tg ex = true := h
    unfold ckSeti at h
    split at h
    · rename_i x xp ix tpos _ _
      simp only [Bool.and_eq_true, Bool.not_eq_true'] at h
      obtain ⟨⟨⟨⟨⟨⟨⟨⟨h1, h2⟩, h3⟩, h4⟩, h5⟩, h6⟩, h7⟩, h8⟩, h9⟩ := h
      exact psI (ps_asg (pe_weak (((snd P v).v O.toXOk hP h8).2 h7)) (pg_sub (pe_name O.toXOk0 h1) (pe_weak (((snd P ke).v O.toXOk hP h9).2 h6)) set_list (by cases ix <;> first | (intro _; rfl) | cases h2)) (noswapS h3) (by cases ex <;> rfl) rfl) fun D σ H q => seti_core h5 h4 q
    · cases h
theorem sndS (P : Prog) : ∀ m : MS, SndS P m := by
  intro m
  induction m with
  | nil =>
    refine ⟨fun _ _ z => (by cases z), fun {X c k rf sts} O hP _ h => ?_⟩
    cases sts with
    | nil => exact pssI pss_nil fun D σ H q => tM_nil q
    | cons _ _ => cases h
  | seq s t ihs iht =>
    refine ⟨fun _ _ z => (by cases z), fun {X c k rf sts} O hP _ h => ?_⟩
    cases sts with
    | nil => cases h
    | cons st rest =>
      have h : (!isLst s && isLst t && chkS P s k [st] && chkS P t k rest) = true := h
      simp only [Bool.and_eq_true, Bool.not_eq_true'] at h
      obtain ⟨⟨⟨h1, h2⟩, h3⟩, h4⟩ := h
      exact pssI (pss_cons (ihs.one (rf := rf) O hP h1 h3) (iht.all (rf := rf) O hP h2 h4)) fun D σ H q => tM_seq q
  | asg g e => exact ⟨fun O hP _ h => asg_s O hP h, fun _ _ z => (by cases z)⟩
  | par i j a b => exact ⟨fun _ _ _ h => (by cases h), fun _ _ z => (by cases z)⟩
  | expr e =>
    refine ⟨fun {X c k rf st} O hP _ h => ?_, fun _ _ z => (by cases z)⟩
    cases st <;> try (cases h; done)
    have h : (e.one && !isNm e && !isComp _ && chk P e .v k [_]) = true := h
    simp only [Bool.and_eq_true, Bool.not_eq_true'] at h
    obtain ⟨⟨⟨h1, h2⟩, h3⟩, h4⟩ := h
    exact psI (ps_expr (((snd P e).v O.toXOk hP h4).2 h2) (noswap h3 _ _ _)) fun D σ H q => expr_core h1 q
  | aug o j e => exact ⟨fun _ _ _ h => (by cases h), fun _ _ z => (by cases z)⟩
  | seti j ke v => exact ⟨fun O hP _ h => seti_s O hP h, fun _ _ z => (by cases z)⟩
  | ret e =>
    refine ⟨fun {X c k rf st} O hP _ h => ?_, fun _ _ z => (by cases z)⟩
    cases st <;> try (cases h; done)
    rename_i ex pos
    cases ex with
    | none => cases h
    | some ex =>
      by_cases hn : ∃ j, e = .nm j
      · obtain ⟨j, rfl⟩ := hn
        cases ex <;> try (cases h; done)
        have h : (vis k j _ && !k.io.contains j) = true := h
        simp only [Bool.and_eq_true, Bool.not_eq_true'] at h
        exact psI (ps_ret (pe_name O.toXOk0 h.1)) fun D σ H q => ret_nm (io_out O.io h.2) q
      · have hm : isNm e = false := by cases e <;> first | rfl | exact absurd ⟨_, rfl⟩ hn
        have h : (!isNm e && chk P e .v k [ex]) = true := by cases e <;> first | exact h | exact absurd ⟨_, rfl⟩ hn
        simp only [Bool.and_eq_true, Bool.not_eq_true'] at h
        exact psI (ps_ret (((snd P e).v O.toXOk hP h.2).2 hm)) fun D σ H q => ret_core hm q
  | retN =>
    refine ⟨fun {X c k rf st} O hP _ h => ?_, fun _ _ z => (by cases z)⟩
    cases st <;> try (cases h; done)
    rename_i ex pos
    cases ex with
    | some ex => cases h
    | none =>
      refine psI ps_retN fun D σ H q => ?_
      obtain ⟨Fr, G, r, S, q⟩ := q
      refine q .non σ H G S (Same.refl _) ?_
      unfold RetV
      rw [if_neg (by cases rf <;> exact Bool.false_ne_true)]
      rfl
  | ife cc a b iha ihb =>
    refine ⟨fun {X c k rf st} O hP _ h => ?_, fun _ _ z => (by cases z)⟩
    cases st <;> try (cases h; done)
    have h : (isLst a && isLst b && chk P cc .t k [_] && chkS P a k _ && chkS P b k _) = true := h
    simp only [Bool.and_eq_true] at h
    obtain ⟨⟨⟨⟨h1, h2⟩, h3⟩, h4⟩, h5⟩ := h
    exact psI (ps_if ((snd P cc).t O.toXOk hP h3) (iha.all (rf := rf) O hP h1 h4) (ihb.all (rf := rf) O hP h2 h5)) fun D σ H q => if_core q
  | for_ tg it body ih =>
    refine ⟨fun {X c k rf st} O hP _ h => ?_, fun _ _ z => (by cases z)⟩
    cases st <;> try (cases h; done)
    rename_i tg' iter bs els pos
    cases els with
    | cons _ _ => cases h
    | nil =>
      have h : (isLst body && !tg.isL && chkG k tg [tg'] && !isSet iter && chk P it (.s (isTup tg')) k [iter] && chkS P body k bs) = true := h
      simp only [Bool.and_eq_true, Bool.not_eq_true'] at h
      obtain ⟨⟨⟨⟨⟨h1, h2⟩, h3⟩, h4⟩, h5⟩, h6⟩ := h
      obtain ⟨wi, p, hwi⟩ := (snd P it).s O.toXOk hP h5
      exact psI (ps_for O.own O.g.calm p (pg_T O.toXOk0 h2 h3) (ih.all (rf := rf) O hP h1 h6) (fun x => by cases iter <;> first | rfl | cases h4)) fun D σ H q => for_core hwi q
  | whl n cc body ih =>
    refine ⟨fun {X c k rf st} O hP _ h => ?_, fun _ _ z => (by cases z)⟩
    cases st <;> try (cases h; done)
    rename_i ct bs els pos
    cases els with
    | cons _ _ => cases h
    | nil =>
      have h : (isLst body && chk P cc .t k [ct] && chkS P body k bs) = true := h
      simp only [Bool.and_eq_true] at h
      obtain ⟨⟨h1, h3⟩, h4⟩ := h
      exact psI (ps_while O.own ((snd P cc).t O.toXOk hP h3) (ih.all (rf := rf) O hP h1 h4)) fun D σ H q => whl_core q
  | brk =>
    refine ⟨fun {X c k rf st} O hP _ h => ?_, fun _ _ z => (by cases z)⟩
    cases st <;> try (cases h; done)
    refine psI ps_break fun D σ H q => ?_
    obtain ⟨Fr, G, r, S, q⟩ := q
    exact q σ H G S (Same.refl _)
  | cont =>
    refine ⟨fun {X c k rf st} O hP _ h => ?_, fun _ _ z => (by cases z)⟩
    cases st <;> try (cases h; done)
    refine psI ps_continue fun D σ H q => ?_
    obtain ⟨Fr, G, r, S, q⟩ := q
    exact q σ H G S (Same.refl _)
  | pass =>
    refine ⟨fun {X c k rf st} O hP _ h => ?_, fun _ _ z => (by cases z)⟩
    cases st <;> try (cases h; done)
    refine psI ps_pass fun D σ H q => ?_
    obtain ⟨Fr, G, r, S, q⟩ := q
    exact q σ H G S (Same.refl _)
  | raise n a => exact ⟨fun _ _ _ h => (by cases h), fun _ _ z => (by cases z)⟩
  | try_ b n x h => exact ⟨fun _ _ _ h => (by cases h), fun _ _ z => (by cases z)⟩
end
end VL

/-! VL16: defs, the whole program. -/
namespace VL
open PySem PySem.Spec L2

/-! ### the entry, the end -/
def ioL : Nat → List Bool → List V → List (Nat × Addr)
  | n, true :: bs, .ref a :: vs => (n, a) :: ioL (n + 1) bs vs
  | n, false :: bs, _ :: vs => ioL (n + 1) bs vs
  | _, _, _ => []
def ioIx : Nat → List Bool → List Nat
  | n, true :: bs => n :: ioIx (n + 1) bs
  | n, false :: bs => ioIx (n + 1) bs
  | _, [] => []
section
variable {K : PySem.W.Frag} {Fr G H G' H' : Hp} {σ : L2.St} {r : Env}
theorem ioL_ix : ∀ {bs : List Bool} {vs : List V} {n : Nat} {p : Nat × Addr}, p ∈ ioL n bs vs → p.1 ∈ ioIx n bs
  | true :: bs, .ref a :: vs, n, p, h => by
    rcases List.mem_cons.mp h with e | h
    · subst e; exact List.mem_cons_self
    · exact List.mem_cons_of_mem _ (ioL_ix h)
  | false :: bs, _ :: vs, n, p, h => ioL_ix (bs := bs) (vs := vs) (n := n + 1) h
  | [], _, _, _, h => by cases h
  | true :: bs, [], _, _, h => by cases h
  | false :: bs, [], _, _, h => by cases h
  | true :: bs, .non :: _, _, _, h | true :: bs, .bl _ :: _, _, _, h | true :: bs, .int _ :: _, _, _, h | true :: bs, .str _ :: _, _, _, h | true :: bs, .byt _ :: _, _, _, h | true :: bs, .flt _ :: _, _, _, h | true :: bs, .ty _ :: _, _, _, h => by cases h
theorem ArgR.get : ∀ {io : List Bool} {ds : List D} {vs : List V} {j : Nat} {b : Bool}, ArgR K Fr G H io ds vs → io[j]? = some b → ∃ d v, ds[j]? = some d ∧ vs[j]? = some v ∧ (if b = true then ∃ a, v = .ref a ∧ OV K G H d a ∧ G a = none ∧ Fr a = none else RV K G d v)
  | [], _, _, j, b, _, e => by simp at e
  | true :: bs, _, _, 0, b, ⟨d, dr, a, vr, e1, e2, h1, h2, h3, h4⟩, e => by
    simp at e
    subst e e1 e2
    exact ⟨d, _, rfl, rfl, by rw [if_pos rfl]; exact ⟨a, rfl, h1, h2, h3⟩⟩
  | true :: bs, _, _, j + 1, b, ⟨d, dr, a, vr, e1, e2, h1, h2, h3, h4⟩, e => by
    subst e1 e2
    obtain ⟨d', v', q1, q2, q3⟩ := ArgR.get (j := j) h4 (by simpa using e)
    exact ⟨d', v', by simpa using q1, by simpa using q2, q3⟩
  | false :: bs, _, _, 0, b, ⟨d, dr, v, vr, e1, e2, h1, h4⟩, e => by
    simp at e
    subst e e1 e2
    exact ⟨d, _, rfl, rfl, by rw [if_neg Bool.false_ne_true]; exact h1⟩
  | false :: bs, _, _, j + 1, b, ⟨d, dr, v, vr, e1, e2, h1, h4⟩, e => by
    subst e1 e2
    obtain ⟨d', v', q1, q2, q3⟩ := ArgR.get (j := j) h4 (by simpa using e)
    exact ⟨d', v', by simpa using q1, by simpa using q2, q3⟩
theorem ioA_mem : ∀ {io : List Bool} {ds : List D} {vs : List V} {j : Nat} {a : Addr}, ArgR K Fr G H io ds vs → io[j]? = some true → vs[j]? = some (.ref a) → a ∈ ioA io vs
  | [], _, _, j, _, _, e, _ => by simp at e
  | true :: bs, _, _, 0, b, ⟨d, dr, a, vr, e1, e2, h1, h2, h3, h4⟩, e, q => by
    subst e1 e2
    simp at q
    subst q
    exact List.mem_cons_self
  | true :: bs, _, _, j + 1, b, ⟨d, dr, a, vr, e1, e2, h1, h2, h3, h4⟩, e, q => by
    subst e1 e2
    exact List.mem_cons_of_mem _ (ioA_mem (j := j) h4 (by simpa using e) (by simpa using q))
  | false :: bs, _, _, 0, b, _, e, _ => by simp at e
  | false :: bs, _, _, j + 1, b, ⟨d, dr, v, vr, e1, e2, h1, h4⟩, e, q => by
    subst e1 e2
    show b ∈ ioA bs vr
    exact ioA_mem (j := j) h4 (by simpa using e) (by simpa using q)
theorem ioA_inj : ∀ {io : List Bool} {ds : List D} {vs : List V} {i j : Nat} {a : Addr}, ArgR K Fr G H io ds vs → (ioA io vs).Nodup → io[i]? = some true → vs[i]? = some (.ref a) → io[j]? = some true → vs[j]? = some (.ref a) → i = j
  | [], _, _, i, j, _, _, _, e, _, _, _ => by simp at e
  | true :: bs, _, _, i, j, b, ⟨d, dr, a, vr, e1, e2, h1, h2, h3, h4⟩, nd, p1, p2, q1, q2 => by
    subst e1 e2
    have nd : (a :: ioA bs vr).Nodup := nd
    obtain ⟨n1, n2⟩ := List.nodup_cons.mp nd
    cases i with
    | zero =>
      cases j with
      | zero => rfl
      | succ j =>
        simp at p2
        subst p2
        exact absurd (ioA_mem (j := j) h4 (by simpa using q1) (by simpa using q2)) n1
    | succ i =>
      cases j with
      | zero =>
        simp at q2
        subst q2
        exact absurd (ioA_mem (j := i) h4 (by simpa using p1) (by simpa using p2)) n1
      | succ j => rw [ioA_inj (i := i) (j := j) h4 n2 (by simpa using p1) (by simpa using p2) (by simpa using q1) (by simpa using q2)]
  | false :: bs, _, _, i, j, b, ⟨d, dr, v, vr, e1, e2, h1, h4⟩, nd, p1, p2, q1, q2 => by
    subst e1 e2
    cases i with
    | zero => simp at p1
    | succ i =>
      cases j with
      | zero => simp at q1
      | succ j => rw [ioA_inj (i := i) (j := j) h4 nd (by simpa using p1) (by simpa using p2) (by simpa using q1) (by simpa using q2)]
theorem ioL_get : ∀ {io : List Bool} {ds : List D} {vs : List V} {n : Nat} {p : Nat × Addr}, ArgR K Fr G H io ds vs → p ∈ ioL n io vs → ∃ j, p.1 = n + j ∧ io[j]? = some true ∧ vs[j]? = some (.ref p.2)
  | [], _, _, _, _, _, h => by cases h
  | true :: bs, _, _, n, p, ⟨d, dr, a, vr, e1, e2, h1, h2, h3, h4⟩, h => by
    subst e1 e2
    rcases List.mem_cons.mp h with e | h
    · subst e; exact ⟨0, rfl, rfl, rfl⟩
    · obtain ⟨j, q1, q2, q3⟩ := ioL_get (n := n + 1) h4 h
      exact ⟨j + 1, by omega, by simpa using q2, by simpa using q3⟩
  | false :: bs, _, _, n, p, ⟨d, dr, v, vr, e1, e2, h1, h4⟩, h => by
    subst e1 e2
    obtain ⟨j, q1, q2, q3⟩ := ioL_get (n := n + 1) h4 h
    exact ⟨j + 1, by omega, by simpa using q2, by simpa using q3⟩
theorem ioL_snd : ∀ {io : List Bool} {ds : List D} {vs : List V} {n : Nat} {a : Addr}, ArgR K Fr G H io ds vs → a ∈ ioA io vs → ∃ p ∈ ioL n io vs, p.2 = a
  | [], _, _, _, _, _, h => by cases h
  | true :: bs, _, _, n, b, ⟨d, dr, a, vr, e1, e2, h1, h2, h3, h4⟩, h => by
    subst e1 e2
    rcases List.mem_cons.mp h with e | h
    · subst e; exact ⟨_, List.mem_cons_self, rfl⟩
    · obtain ⟨p, q1, q2⟩ := ioL_snd (n := n + 1) h4 h
      exact ⟨p, List.mem_cons_of_mem _ q1, q2⟩
  | false :: bs, _, _, n, b, ⟨d, dr, v, vr, e1, e2, h1, h4⟩, h => by
    subst e1 e2
    exact ioL_snd (n := n + 1) h4 h
theorem startE_get {n : Nat} {io : List Bool} {ds : List D} (hl : ds.length = io.length) (j : Nat) : (∀ b d, io[j]? = some b → ds[j]? = some d → (startE n io ds)[j]? = some (if b then .ow d else .fz d)) ∧ (∀ x, io[j]? = none → (startE n io ds)[j]? = some x → x = .un) := by
  unfold startE
  have hz : (List.map (fun (b, d) => if b then Slot.ow d else .fz d) (io.zip ds)).length = io.length := by rw [List.length_map, List.length_zip, hl]; simp
  refine ⟨fun b d h1 h2 => ?_, fun x h1 h2 => ?_⟩
  · have hj := (List.getElem?_eq_some_iff.mp h1).1
    rw [List.getElem?_append_left (by rw [hz]; exact hj), List.getElem?_map, List.getElem?_zip_eq_some.mpr (show io[j]? = some (b, d).1 ∧ ds[j]? = some (b, d).2 from ⟨h1, h2⟩)]
    rfl
  · rw [List.getElem?_eq_none_iff] at h1
    rw [List.getElem?_append_right (by rw [hz]; exact h1), List.getElem?_replicate] at h2
    split at h2 <;> cases h2
    rfl
theorem start_get {N : List Str} {vs : List V} {j : Nat} {v : V} (h : vs[j]? = some v) : (L2.start N vs)[j]? = some (some v) := by
  have hj := (List.getElem?_eq_some_iff.mp h).1
  unfold L2.start
  rw [List.getElem?_append_left (by rw [List.length_map]; exact hj), List.getElem?_map, h]
  rfl
theorem sr_start {N : List Str} {io : List Bool} {ds : List D} {vs : List V} (hn : io.length ≤ N.length) (g : Same G H) (f : ∀ a o, Fr a = some o → H a = some o ∧ G a = none) (ar : ArgR K Fr G H io ds vs) (nd : (ioA io vs).Nodup) :
    SR K (ioL 0 io vs) Fr G (L2.start N vs) H (startE N.length io ds) := by
  obtain ⟨l1, l2⟩ := ar.lens
  have own : ∀ {i a}, ownAt (L2.start N vs) (startE N.length io ds) i a → io[i]? = some true ∧ vs[i]? = some (.ref a) := fun {i a} ⟨q1, d, q2⟩ => by
    cases e : io[i]? with
    | none =>
      rcases q2 with q2 | q2
      · have := (startE_get (n := N.length) l2 i).2 _ e q2; cases this
      · have := (startE_get (n := N.length) l2 i).2 _ e q2; cases this
    | some b =>
      obtain ⟨d', v, e1, e2, e3⟩ := ar.get e
      have e4 := (startE_get (n := N.length) l2 i).1 b d' e e1
      rw [start_get e2] at q1
      cases q1
      cases b with
      | true => exact ⟨rfl, e2⟩
      | false => rcases q2 with q2 | q2 <;> (rw [e4] at q2; cases q2)
  refine ⟨?_, g, f, fun j x e => ?_, fun i j a q1 q2 => ?_, fun p hp => ?_⟩
  · unfold startE L2.start
    simp only [List.length_append, List.length_map, List.length_zip, List.length_replicate, l1, l2]
    omega
  · cases ei : io[j]? with
    | none =>
      rw [(startE_get (n := N.length) l2 j).2 x ei e]
      trivial
    | some b =>
      obtain ⟨d, v, e1, e2, e3⟩ := ar.get ei
      rw [(startE_get (n := N.length) l2 j).1 b d ei e1] at e
      cases e
      cases b with
      | true =>
        rw [if_pos rfl] at e3
        obtain ⟨a, rfl, h1, h2, h3⟩ := e3
        exact ⟨a, start_get e2, h2, h3, h1⟩
      | false =>
        rw [if_neg Bool.false_ne_true] at e3
        exact ⟨v, start_get e2, e3⟩
  · obtain ⟨z1, z2⟩ := own q1
    obtain ⟨z3, z4⟩ := own q2
    exact ioA_inj ar nd z1 z2 z3 z4
  · obtain ⟨j, e1, e2, e3⟩ := ioL_get ar hp
    obtain ⟨d, v, e4, e5, _⟩ := ar.get e2
    have e1 : p.1 = j := by omega
    rw [e1]
    exact ⟨start_get e3, d, .inl ((startE_get (n := N.length) l2 j).1 true d e2 e4)⟩
theorem outs_end {io' : List (Nat × Addr)} {Fr' : Hp} (S : SR K io' Fr' G' σ H' r) : ∀ {io : List Bool} {ds : List D} {vs : List V} {n : Nat} {outs : List D}, ArgR K Fr G H io ds vs → (∀ p ∈ ioL n io vs, σ[p.1]? = some (some (.ref p.2))) → iosOf io (r.drop n) = some outs → OutR K G' H' (ioA io vs) outs
  | [], _, _, n, outs, ⟨h1, h2⟩, _, h => by
    subst h1 h2
    cases h
    rfl
  | true :: bs, _, _, n, outs, ⟨d, dr, a, vr, e1, e2, h1, h2, h3, h4⟩, hs, h => by
    subst e1 e2
    cases er : r.drop n with
    | nil => rw [er] at h; cases h
    | cons x r' =>
      rw [er] at h
      cases x with
      | un => cases h
      | fz _ => cases h
      | lk _ => cases h
      | ow d1 =>
        have h : (iosOf bs r').map (d1 :: ·) = some outs := h
        cases e3 : iosOf bs r' with
        | none => rw [e3] at h; cases h
        | some l =>
          rw [e3] at h
          cases h
          have hr : r[n]? = some (.ow d1) := by
            have := congrArg (·[0]?) er
            simpa [List.getElem?_drop] using this
          obtain ⟨a', q1, q2, _, q4⟩ := S.s n _ hr
          have := hs (n, a) List.mem_cons_self
          rw [q1] at this
          cases this
          refine ⟨d1, l, rfl, q4, q2, outs_end S (n := n + 1) h4 (fun p hp => hs p (List.mem_cons_of_mem _ hp)) ?_⟩
          have : r.drop (n + 1) = r' := by rw [← List.drop_drop, er]; rfl
          rw [this]
          exact e3
  | false :: bs, _, _, n, outs, ⟨d, dr, v, vr, e1, e2, h1, h4⟩, hs, h => by
    subst e1 e2
    cases er : r.drop n with
    | nil => rw [er] at h; cases h
    | cons x r' =>
      rw [er] at h
      have h : iosOf bs r' = some outs := by cases x <;> exact h
      show OutR K G' H' (ioA bs vr) outs
      refine outs_end S (n := n + 1) h4 hs ?_
      have : r.drop (n + 1) = r' := by rw [← List.drop_drop, er]; rfl
      rw [this]
      exact h
end

/-! ### a def by its body -/
section
variable {Pg : Program} {w : World} {K : PySem.W.Frag} {mg : Str → Option Value} {base : Heap} {cx : CXT}
theorem deeper_guards (A : Around) (env : PySem.Env) : (A.deeper env).guards = A.guards := by
  first | rfl | simp [Around.deeper, Code.guards, Code.isGuard, pushGuards, guardIds]
theorem fnG_of {k : Nat} {f : Addr} {name qual : Str} {params : Arguments} {body : List Stmt} {scope : Scope} {dV kV doc pm cdv ct oc : Value} {an od : Option Addr} {osl : Array (Option Value)} {N ps : List Str} {sp : Sp}
    (at_ : K.lookup f = some ⟨oc, od, .func (PySem.W.fnOf name qual params body scope dV kV doc pm an cdv ct), osl⟩) (code : PySem.W.codeIn K cdv qual = true) (S : FnScope N ps scope) (len : ∀ vs H Q E, sp vs H Q E → vs.length = ps.length)
    (go : ∀ (A : Around) (outer : List PySem.Env) (s : Shared) (H : Hp) (vs : List V) (Q : VK) (E : XK), Room k (A.deeper (PyProof.Rows.envOfC qual scope s.heap.objs.size f cdv)) → A.guards = some [] → sp vs H Q E →
      ∃ t, PSs (cxOf cx Pg w K mg base N qual scope f cdv A outer s H E) body t ∧ t { nx := fun _ H' => Q .non H', rt := Q } (L2.start N vs) H) :
    FnG Pg w K mg base cx (k + 1) f (PySem.W.fnOf name qual params body scope dV kV doc pm an cdv ct) ps sp where
  len := len
  run := by
    intro A outer s H args us vs Q E room gu e0 bt rel hq
    have up : ∀ b o, base.get? b = some o → s.heap.get? b = some o := fun b o e => (e0.bs b o e).1
    have inK : K.In s.heap := e0.mod.kin.keeps up
    obtain ⟨t, pt, tq⟩ := go A outer s H vs Q E (room.deeper _) gu hq
    refine codeAny_call_function room.depth (inK _ _ at_) rfl S.co S.gen rfl (PySem.W.codeRec_of inK code) (bt _ _ _ _ (wpAny_newFunctionEnv_cells S.kind ?_ ?_))
    · rintro ⟨x, v⟩ hx
      rcases S.par x (List.of_mem_zip hx).1 with z | z
      · exact .inl z
      · exact .inr ⟨z, PySem.W.cellsFrom_some _ _ _ (.inl z)⟩
    · rintro env rfl s1 into
      have inv : L2.Inv (cxOf cx Pg w K mg base N qual scope f cdv A outer s H E) [] (L2.start N vs) H s1 := inv_start S room.hd e0 (len _ _ _ _ hq) rel into
      refine ⟨(e0.mod.nolimit.keeps up).keeps into.toInCall.keep, codeAny_func (wpAny_mono (pt.run [] s1 (L2.start N vs) H _ inv tq) ?_ fun _ _ z => z)⟩
      rintro (_ | _ | _ | u) s' hs
      · obtain ⟨σ', H', J, q⟩ := hs
        exact ⟨V.non, H', J.os, J.bare, J.base, J.hok, rfl, q⟩
      · first
          | (obtain ⟨_, _, _, q⟩ := hs; exact q.elim)
          | (obtain ⟨v, σ', H', J, rv, q⟩ := hs; exact ⟨v, H', J.os, J.bare, J.base, J.hok, rv, q⟩)
      · obtain ⟨_, _, _, q⟩ := hs; exact q.elim
      · first
          | (obtain ⟨_, _, _, q⟩ := hs; exact q.elim)
          | (obtain ⟨v, σ', H', J, rv, q⟩ := hs; exact ⟨v, H', J.os, J.bare, J.base, J.hok, rv, q⟩)
end
end VL

/-! VL17: the whole program, by depth of calls. -/
namespace VL
open PySem PySem.Spec L2
structure DefT where
  name : Str
  N : List Str
  ps : List Str
  scope : Scope
  body : List Stmt
def DefT.k (t : DefT) (fd : FDef) (FN : List Str) (gt : List (Str × D)) : CkE := { N := t.N, names := t.scope.names, raw := t.scope.names, io := ioIx 0 fd.io, FN := FN, gt := gt }
def scopeChk (N P : List Str) (sc : Scope) : Bool :=
  (match sc.kind with
    | .function => true
    | _ => false) && !sc.isCoroutine && !sc.isGenerator && decide N.Nodup && decide (N.take P.length = P) && P.all (fun x => match sc.names.lookup x with
    | some .local => true
    | some .cell => true
    | _ => false) && sc.names.all (fun y => match y.2 with
    | .free => false
    | _ => true)
theorem scope_of {N P : List Str} {sc : Scope} (h : scopeChk N P sc = true) : FnScope N P sc := by
  unfold scopeChk at h
  simp only [Bool.and_eq_true, Bool.not_eq_true', decide_eq_true_eq, List.all_eq_true] at h
  obtain ⟨⟨⟨⟨⟨⟨h1, h2⟩, h3⟩, h4⟩, h5⟩, h6⟩, h7⟩ := h
  refine ⟨?_, h2, h3, h4, h5, fun x hx => ?_, fun y hy z => ?_⟩
  · split at h1
    · assumption
    · cases h1
  · have := h6 x hx
    split at this
    · exact .inl (by assumption)
    · exact .inr (by assumption)
    · cases this
  · have := h7 y hy
    rw [z] at this
    cases this
def chkDef (P : Prog) (FN : List Str) (t : DefT) (fd : FDef) : Bool :=
  scopeChk t.N t.ps t.scope && decide (fd.nslots = t.N.length) && decide (t.ps.length = fd.io.length) && isLst fd.body && chkS P fd.body (t.k fd FN P.gt) t.body
def chkAll (P : Prog) (FN : List Str) (ts : List DefT) : Bool := decide (FN = ts.map (·.name)) && decide (P.fs.length = ts.length) && (ts.zip P.fs).all fun p => chkDef P FN p.1 p.2
theorem chkAll_at {P : Prog} {FN : List Str} {ts : List DefT} (h : chkAll P FN ts = true) : P.fs.length = ts.length ∧ ∀ (i : Nat) (t : DefT), ts[i]? = some t → FN[i]? = some t.name ∧ ∃ fd, P.fs[i]? = some fd ∧ chkDef P FN t fd = true := by
  unfold chkAll at h
  simp only [Bool.and_eq_true, decide_eq_true_eq, List.all_eq_true] at h
  obtain ⟨⟨h1, h2⟩, h3⟩ := h
  refine ⟨h2, fun i t e => ⟨by rw [h1, List.getElem?_map, e]; rfl, ?_⟩⟩
  have hi := (List.getElem?_eq_some_iff.mp e).1
  have e2 : P.fs[i]? = some P.fs[i] := List.getElem?_eq_getElem (by omega)
  refine ⟨_, e2, h3 (t, P.fs[i]) ?_⟩
  have : (ts.zip P.fs)[i]? = some (t, P.fs[i]) := List.getElem?_zip_eq_some.mpr ⟨e, e2⟩
  exact List.mem_of_getElem? this
/-- where a def stands -/
structure AtK (K : PySem.W.Frag) (mg : Str → Option Value) (t : DefT) (f : Addr) (fdata : FuncData) : Prop where
  mg : mg t.name = some (.ref f)
  keep : PySem.W.keepIn K (.ref f) = true
  bi : Binds K fdata t.ps []
  at_ : ∃ (name qual : Str) (params : Arguments) (dV kV doc pm cdv ct oc : Value) (an od : Option Addr) (osl : Array (Option Value)), fdata = PySem.W.fnOf name qual params t.body t.scope dV kV doc pm an cdv ct ∧
    K.lookup f = some ⟨oc, od, .func fdata, osl⟩ ∧ PySem.W.codeIn K cdv qual = true
def cfg0 (K : PySem.W.Frag) (P : Prog) (C : Nat → Addr) (fld : Nat → Option Str) : Cfg := ⟨K, [], fun _ _ _ _ => False, P, fun _ _ => .stk, C, fld⟩
section
variable {Pg : Program} {w : World} {K : PySem.W.Frag} {mg : Str → Option Value} {base : Heap} {P : Prog} {C : Nat → Addr} {fld : Nat → Option Str}
theorem body_ok {k : Nat} {t : DefT} {fd : FDef} {FN : List Str} {qual : Str} {f : Addr} {cdv : Value} {cf : Nat → List D → VL.CR} (hc : chkDef P FN t fd = true)
    (bt : ∀ x ∈ bnames, mg x = none) (gl : ∀ (i : Nat) (x : Str) (d : D), P.gt[i]? = some (x, d) → ∃ (u : Value) (v : V), mg x = some u ∧ RelV v u ∧ ∀ G, RV K G d v)
    (calls : ∀ (f : Nat) (fd : FDef) (x : Str), P.fs[f]? = some fd → FN[f]? = some x → ∃ (a : Addr) (fdata : FuncData) (ps : List Str), mg x = some (.ref a) ∧ PySem.W.keepIn K (.ref a) = true ∧ Binds K fdata ps [] ∧
      FnG Pg w K mg base (L2.CX Pg w) k a fdata ps (spG (cfg0 K P C fld) fd.io fd.rf (cf f)))
    (A : Around) (outer : List PySem.Env) (s : Shared) (H : Hp) (vs : List V) (Q : VK) (E : XK) (room : Room k (A.deeper (PyProof.Rows.envOfC qual t.scope s.heap.objs.size f cdv))) (gu : A.guards = some [])
    (sp : spG (cfg0 K P C fld) fd.io fd.rf (fd.run shownD P cf) vs H Q E) :
    ∃ tr, PSs (cxOf (L2.CX Pg w) Pg w K mg base t.N qual t.scope f cdv A outer s H E) t.body tr ∧ tr { nx := fun _ H' => Q .non H', rt := Q } (L2.start t.N vs) H := by
  unfold chkDef at hc
  simp only [Bool.and_eq_true, decide_eq_true_eq] at hc
  obtain ⟨⟨⟨⟨h1, h2⟩, h3⟩, h4⟩, h5⟩ := hc
  have S := scope_of h1
  obtain ⟨Fr, G, ds, g, hf, ar, nd, q⟩ := sp
  obtain ⟨l1, l2⟩ := ar.lens
  have hps : t.ps.length ≤ t.N.length := by
    have := congrArg List.length S.pre
    rw [List.length_take] at this
    omega
  have St := sr_start (N := t.N) (by omega) g hf ar nd
  generalize hX : cxOf (L2.CX Pg w) Pg w K mg base t.N qual t.scope f cdv A outer s H E = X
  let c : Cfg := ⟨K, ioL 0 fd.io vs, fun cls d _ H => E cls d H, P, cf, C, fld⟩
  have O : XS X c (t.k fd FN P.gt) := by
    subst hX
    exact {
      g := ⟨rfl, (deeper_guards A _).trans gu, by have := room.un; show (A.deeper _).units + 200 < cLine; omega⟩
      K := rfl
      N := rfl
      nd := S.nd
      nm := rfl
      raw := fun x h => ⟨h, .inl rfl⟩
      io := fun p hp => ioL_ix hp
      tk := takes_of rfl rfl rfl rfl
      bt := bt
      gtk := rfl
      gl := gl
      calls := fun fi fdi x e1 e2 => by
        obtain ⟨a, fdata, ps, z1, z2, z3, z4⟩ := calls fi fdi x e1 e2
        exact ⟨k, a, fdata, ps, z1, z2, z3, room, z4⟩
      kind := S.kind
      own := PassesOwn.leaving }
  refine ⟨_, (sndS P fd.body).all (rf := fd.rf) O rfl h4 h5, Fr, G, startE t.N.length fd.io ds, St, ?_⟩
  have q : match (if ds.length = fd.io.length then
      match fd.body.ev shownD P cf fd.rf (startE fd.nslots fd.io ds) with
      | .ok f r => match f, iosOf fd.io r with
        | .nx, some outs => VL.CR.ok .non outs
        | .ret d, some outs => .ok d outs
        | _, _ => .stk
      | .err c fs r => match iosOf fd.io r with
        | some outs => .err c fs outs
        | none => .stk
      | .stk => .stk
    else .stk) with
    | .ok d outs => ∀ (v : V) (H' G' : Hp), Kept Fr G G' H' → OutR K G' H' (ioA fd.io vs) outs → ResV K fd.rf Fr G' H' (ioA fd.io vs) d v → Q v H'
    | .err n fs outs => ∀ (H' G' : Hp) (dx : Option Addr), Kept Fr G G' H' → OutR K G' H' (ioA fd.io vs) outs → XR (cfg0 K P C fld) n fs dx G' H' → E (.ref (C n)) dx H'
    | .stk => False := q
  rw [if_pos l2, h2] at q
  show ResS c Fr G (fd.body.ev shownD P cf fd.rf (startE t.N.length fd.io ds)) _
  have io_at : ∀ {σ' : L2.St} {H' G' : Hp} {r : Env}, SR K (ioL 0 fd.io vs) Fr G' σ' H' r → ∀ {outs : List D}, iosOf fd.io r = some outs → OutR K G' H' (ioA fd.io vs) outs := fun {σ' H' G' r} S' {outs} e =>
    outs_end S' (n := 0) ar (fun p hp => (S'.i p hp).1) (by rw [List.drop_zero]; exact e)
  cases ev : fd.body.ev shownD P cf fd.rf (startE t.N.length fd.io ds) with
  | stk => rw [ev] at q; exact q
  | err n fs r =>
    rw [ev] at q
    dsimp only at q
    cases eo : iosOf fd.io r with
    | none => rw [eo] at q; exact q.elim
    | some outs =>
      rw [eo] at q
      exact fun σ' H' G' dx S' g' xr => q H' G' dx ⟨g', S'.g, S'.f⟩ (io_at S' eo) xr
  | ok fl r =>
    rw [ev] at q
    dsimp only at q
    cases eo : iosOf fd.io r with
    | none => rw [eo] at q; cases fl <;> exact q.elim
    | some outs =>
      rw [eo] at q
      cases fl with
      | bk => exact q.elim
      | ct => exact q.elim
      | nx =>
        refine fun σ' H' G' S' g' => q .non H' G' ⟨g', S'.g, S'.f⟩ (io_at S' eo) ?_
        unfold ResV
        rw [if_neg (by cases fd.rf <;> exact Bool.false_ne_true)]
        rfl
      | ret d =>
        refine fun v σ' H' G' S' g' rv => q v H' G' ⟨g', S'.g, S'.f⟩ (io_at S' eo) ?_
        unfold ResV
        unfold RetV at rv
        split at rv
        · rename_i hm
          obtain ⟨a, rfl, z1, z2, z3, z4⟩ := rv
          rw [if_pos hm]
          refine ⟨a, rfl, z1, z2, z3, fun z => ?_⟩
          obtain ⟨p, hp, e⟩ := ioL_snd (n := 0) ar z
          exact z4 p hp e
        · rename_i hm
          rw [if_neg hm]
          exact rv
/-- every def, k deep -/
theorem prog_ok {ts : List DefT} {FN : List Str} {tab : Nat → Addr × FuncData} (hall : ∀ (i : Nat) (t : DefT), ts[i]? = some t → AtK K mg t (tab i).1 (tab i).2 ∧ FN[i]? = some t.name ∧ ∃ fd, P.fs[i]? = some fd ∧ chkDef P FN t fd = true)
    (hlen : P.fs.length = ts.length) (bt : ∀ x ∈ bnames, mg x = none) (gl : ∀ (i : Nat) (x : Str) (d : D), P.gt[i]? = some (x, d) → ∃ (u : Value) (v : V), mg x = some u ∧ RelV v u ∧ ∀ G, RV K G d v) :
    ∀ (k : Nat) (i : Nat) (t : DefT) (fd : FDef), ts[i]? = some t → P.fs[i]? = some fd → FnG Pg w K mg base (L2.CX Pg w) k (tab i).1 (tab i).2 t.ps (spG (cfg0 K P C fld) fd.io fd.rf (callN shownD P k i)) := by
  intro k
  induction k with
  | zero =>
    intro i t fd _ _
    have no : ∀ vs H Q E, ¬ spG (cfg0 K P C fld) fd.io fd.rf (callN shownD P 0 i) vs H Q E := fun vs H Q E ⟨_, _, _, _, _, _, _, q⟩ => q
    exact ⟨fun vs H Q E h => (no _ _ _ _ h).elim, fun A outer s H args us vs Q E _ _ _ _ _ h => (no _ _ _ _ h).elim⟩
  | succ k ih =>
    intro i t fd e1 e2
    obtain ⟨at_, hn, fd', e3, hc⟩ := hall i t e1
    rw [e2] at e3
    cases e3
    obtain ⟨name, qual, params, dV, kV, doc, pm, cdv, ct, oc, an, od, osl, h1, h2, h3⟩ := at_.at_
    rw [h1] at h2 ⊢
    have hc2 := hc
    unfold chkDef at hc2
    simp only [Bool.and_eq_true, decide_eq_true_eq] at hc2
    refine fnG_of h2 h3 (scope_of hc2.1.1.1.1) (fun vs H Q E ⟨_, _, _, _, _, ar, _⟩ => by rw [ar.lens.1, hc2.1.1.2]) fun A outer s H vs Q E room gu sp => ?_
    refine body_ok (C := C) (fld := fld) (cf := callN shownD P k) hc bt gl (fun j fdj x z1 z2 => ?_) A outer s H vs Q E room gu ?_
    · have hj : j < ts.length := by rw [← hlen]; exact (List.getElem?_eq_some_iff.mp z1).1
      have e4 : ts[j]? = some ts[j] := List.getElem?_eq_getElem hj
      obtain ⟨a2, n2, _⟩ := hall j _ e4
      rw [n2] at z2
      cases z2
      exact ⟨_, _, _, a2.mg, a2.keep, a2.bi, ih j _ fdj e4 z1⟩
    · have e : callN shownD P (k + 1) i = fd.run shownD P (callN shownD P k) := by
        funext ds
        show (match P.fs[i]? with
          | some fd => fd.run shownD P (callN shownD P k) ds
          | none => .stk) = _
        rw [e2]
      rw [e] at sp
      exact sp
end

/-! ### the law's own call -/
theorem rvs_ints {K : PySem.W.Frag} {G : Hp} : ∀ ns : List Int, RVs K G (ns.map D.int) (ns.map V.int)
  | [] => rfl
  | n :: ns => RVs.cons rfl (rvs_ints ns)
/-- the state behind the top, the script frozen -/
theorem law_run {Pg : Program} {w : World} {K : PySem.W.Frag} {mg mb : Str → Option Value} {k : Nat} {fa a : Addr} {fd : FuncData} {x : Str} {c : Cfg} {rf : Bool} {run : List D → VL.CR} {t : Shared} {us : List Value} {ns : List Int}
    (inK : K.In t.heap) (nsG : t.heap.Ns mainGlobals mg) (nsB : t.heap.Ns builtinsNs mb) (eqB : ∀ x : Str, x ≠ "__name__" → mb x = bootBuiltins x) (lim : t.heap.NoLimit) (noGen : t.gens = #[])
    (atA : t.heap.get? a = some { cls := .type "list", data := .seq us.toArray }) (hInts : PyProof.Rows.IntsAre us ns) (short : ns.length ≤ sizeLine) (room : Room k callerA) (cK : c.K = K)
    (F : ∀ base : Heap, K.In base → base.Ns mainGlobals mg → FnG Pg w K mg base (L2.CX Pg w) k fa fd [x] (spG c [false] rf run)) (bi : Binds K fd [x] [])
    (good : ∃ outs, run [.lst (ns.map .int)] = .ok (.bl true) outs) :
    codeAny (model Pg w) callerA (.call (.ref fa) ⟨[.ref a], []⟩) (fun r t' => r = .ok (.ret (.bool true)) ∧ OldK t.heap t'.heap ∧ t'.os = t.os ∧ PyProof.Rows.AllBare t'.gens) t := by
  have rel := vals_ints hInts
  have lenU := hInts.length
  let lst : Obj := { cls := .type "list", data := .seq us.toArray }
  let H : Hp := fun b => if b = a ∧ K.lookup a = none then some (.frz lst (.lst (ns.map V.int))) else none
  have inv : ∀ {b u}, H b = some u → b = a ∧ K.lookup a = none ∧ u = .frz lst (.lst (ns.map V.int)) := fun {b u} e => by
    by_cases z : b = a ∧ K.lookup a = none
    · have e2 : H b = some _ := if_pos z
      rw [e] at e2
      exact ⟨z.1, z.2, Option.some.inj e2⟩
    · have e2 : H b = none := if_neg z
      rw [e] at e2
      cases e2
  have none_of : ∀ {b}, (b = a → K.lookup a ≠ none) → H b = none := fun {b} z => if_neg fun q => z q.1 q.2
  have ns_of : ∀ {b m}, t.heap.Ns b m → (hidT t.heap H).Ns b m := fun {b m} ⟨o, es, ep, e, d, q⟩ => by
    refine ⟨o, es, ep, hidT_get e (none_of fun z _ => ?_), d, q⟩
    subst z
    rw [atA] at e
    cases e
    cases d
  have inB : K.In (hidT t.heap H) := fun b o e => hidT_get (inK b o e) (none_of fun z y => by rw [z, y] at e; cases e)
  have mod : Mod K mg (hidT t.heap H) := ⟨inB, ns_of nsG, ⟨mb, ns_of nsB, eqB⟩, by obtain ⟨mc, q1, q2⟩ := lim; exact ⟨mc, ns_of q1, q2⟩⟩
  have okH : HOk Pg w H t.heap := fun b u e => by
    obtain ⟨rfl, _, rfl⟩ := inv e
    exact ⟨atA, by rw [List.length_map]; exact short, us, _, rel, atA⟩
  have seq : SqL K H a (ns.map V.int) := by
    cases e : K.lookup a with
    | some o =>
      have q := inK a o e
      rw [atA] at q
      cases q
      exact .inr ⟨_, us.toArray, _, e, rfl, rfl, rfl, by rw [List.size_toArray, lenU]; exact short, by simpa using rel⟩
    | none => exact .inl (.inr ⟨lst, if_pos ⟨rfl, e⟩⟩)
  have env : Env0 Pg w K mg (hidT t.heap H) callerA [] t H := ⟨rfl, mod, fun b o e => of_hidT e, Nat.le_of_eq (hidT_size _ _), trivial, fun b hb => (nomatch hb), okH, .of_eq noGen⟩
  obtain ⟨outs, good⟩ := good
  have want : spG c [false] rf run [.ref a] H (fun v _ => v = .bl true) fun _ _ _ => False := by
    refine ⟨fun _ => none, H, [.lst (ns.map .int)], Same.refl _, fun _ _ z => (nomatch z), ⟨_, [], _, [], rfl, rfl, ⟨a, _, rfl, by rw [cK]; exact seq, rvs_ints ns⟩, rfl, rfl⟩, List.nodup_nil, ?_⟩
    rw [good]
    intro v H' G' _ _ rv
    unfold ResV at rv
    rw [if_neg (by cases rf <;> exact Bool.false_ne_true)] at rv
    exact rv
  refine codeAny_mono ((F _ inB (ns_of nsG)).run callerA [] t H ⟨[.ref a], []⟩ [.ref a] [.ref a] _ _ room rfl env (bi t [.ref a] inK rfl) (.cons rfl .nil) want) ?_
  rintro (e | fl) t' h
  · obtain ⟨_, _, _, _, _, _, _, _, _, _, _, _, q⟩ := h
    exact q.elim
  · cases fl <;> try (exact False.elim h)
    rename_i u
    obtain ⟨v, H', os, bare, un, okH', rv, q⟩ := h
    have q : v = .bl true := q
    subst q
    cases (show u = Value.bool true from rv)
    refine ⟨rfl, OldK.of_keep fun b o e => ?_, os, bare⟩
    cases eb : H b with
    | none => exact un.keep b o e eb (fun z => (nomatch z)) (by simp)
    | some y =>
      obtain ⟨rfl, _, rfl⟩ := inv eb
      obtain ⟨e2, _⟩ := okH' b _ (un.frzs b lst _ eb)
      rw [atA] at e
      cases e
      exact e2
/-- what k_head leaves of a law -/
theorem law_walk {l : PySem.W.OpenLaw} {n k : Nat} {q : Program} {loose : List Str} {XP : (Str → Option Value) → Heap → Prop} {YP : World → Heap → Prop} {d : DefRec} {K : Params → PySem.W.Frag} {x : Str} {rf : Bool} {run : List D → VL.CR}
    (most : l.most = some n) (small : n ≤ sizeLine) (nodef : d.params.defaults = []) (room : Room k callerA) (hY : ∀ (w : World) (h : Heap), YP w h → (K w.params).In h)
    (F : ∀ (w : World) (mg : Str → Option Value) (fa : Addr) (h : Heap), (K w.params).In h → h.Ns mainGlobals mg → mg d.name = some (.ref fa) →
      ∃ (fd : FuncData) (c : Cfg), c.K = K w.params ∧ Binds (K w.params) fd [x] [] ∧ ∀ base : Heap, (K w.params).In base → base.Ns mainGlobals mg → FnG l.prog w (K w.params) mg base (L2.CX l.prog w) k fa fd [x] (spG c [false] rf run))
    (good : ∀ ns : List Int, ns.length ≤ n → ∃ outs, run [.lst (ns.map .int)] = .ok (.bl true) outs) :
    PySem.W.WalkO q loose XP YP l.row.toRowW d [] (fun f vs => PySem.call f vs) := by
  refine Att.attach_call most nodef ?_
  intro w s0 s1 mg mb fa o pm cd doc a us ns G Y _ _ _ named atA hInts len noGen
  obtain ⟨fd, c, cK, bi, F⟩ := F w mg fa _ (hY w _ Y) G.T.g named
  exact law_run (hY w _ Y) G.T.g G.T.b G.T.builtins G.T.nolimit noGen atA hInts (Nat.le_trans len small) room cK F bi (good ns len)
end VL

/-! VL18: what the top has left, the whole. -/
namespace VL
open PySem PySem.Spec L2
def AllAt (K : PySem.W.Frag) (mg : Str → Option Value) : List DefT → List (Addr × FuncData) → Prop
  | [], ps => ps = []
  | t :: ts, ps => ∃ f fd r, ps = (f, fd) :: r ∧ AtK K mg t f fd ∧ AllAt K mg ts r
noncomputable def tabOf (l : List (Addr × FuncData)) (i : Nat) : Addr × FuncData := l.getD i (0, ⟨"", "", ⟨[], [], none, [], [], none, []⟩, .stmts [], ⟨.function, [], false, false, []⟩, 0, [], .none, .none, .none, .none, none, .none, .none, 0⟩)
theorem AllAt.get {K : PySem.W.Frag} {mg : Str → Option Value} : ∀ {ts : List DefT} {l : List (Addr × FuncData)} {i : Nat} {t : DefT}, AllAt K mg ts l → ts[i]? = some t → AtK K mg t (tabOf l i).1 (tabOf l i).2
  | [], _, _, _, _, e => by simp at e
  | t :: ts, _, 0, _, ⟨f, fd, r, e1, h1, h2⟩, e => by
    simp at e
    subst e e1
    exact h1
  | t :: ts, _, i + 1, _, ⟨f, fd, r, e1, h1, h2⟩, e => by
    subst e1
    exact AllAt.get (i := i) h2 (by simpa using e)
section
variable {K : PySem.W.Frag} {h : Heap} {mg : Str → Option Value}
theorem at_mk (X : K.In h) (G : h.Ns mainGlobals mg) {name : Str} {N ps : List Str} {st : Stmt} {f : Addr} {oc kV dc pm cd ct : Value} {od an : Option Addr} {sl : Array (Option Value)}
    (b : ∀ (kV doc pm : Value) (an : Option Addr) (cdv ct : Value) (us : List Value), us.length = ps.length → bindArgs (PySem.W.fnOf name name (defArgs st) (defBody st) (defScope st) .none kV doc pm an cdv ct) ⟨us, []⟩ = pure (ps.zip us))
    (a : PySem.W.nsIn K mainGlobals name = some (some (.ref f))) (l : K.lookup f = some ⟨oc, od, .func (PySem.W.fnOf name name (defArgs st) (defBody st) (defScope st) .none kV dc pm an cd ct), sl⟩) (c : PySem.W.codeIn K cd name = true) (kp : PySem.W.keepIn K (.ref f) = true) :
    AtK K mg ⟨name, N, ps, defScope st, defBody st⟩ f (PySem.W.fnOf name name (defArgs st) (defBody st) (defScope st) .none kV dc pm an cd ct) :=
  ⟨PySem.W.mg_of X G a, kp, .all (b kV dc pm an cd ct), name, name, defArgs st, .none, kV, dc, pm, cd, ct, oc, an, od, sl, rfl, l, c⟩
/-- a module's constant -/
theorem gl_str (X : K.In h) (G : h.Ns mainGlobals mg) {x s : Str} {t : Tok} (a : PySem.W.nsIn K mainGlobals x = some (some (.str s t))) : ∃ (u : Value) (v : V), mg x = some u ∧ RelV v u ∧ ∀ G, RV K G (.str s) v := ⟨_, .str s, PySem.W.mg_of X G a, ⟨t, rfl⟩, fun _ => rfl⟩
theorem gl_int (X : K.In h) (G : h.Ns mainGlobals mg) {x : Str} {i : Int} {t : Tok} (a : PySem.W.nsIn K mainGlobals x = some (some (.int i t))) : ∃ (u : Value) (v : V), mg x = some u ∧ RelV v u ∧ ∀ G, RV K G (.int i) v := ⟨_, .int i, PySem.W.mg_of X G a, ⟨t, rfl⟩, fun _ => rfl⟩
/-- strs of a constant tuple -/
def strsOk : List Str → List Value → Bool
  | [], [] => true
  | s :: ss, .str z _ :: vs => decide (s = z) && strsOk ss vs
  | _, _ => false
theorem strsOk_vals : ∀ {ss : List Str} {vs : List Value}, strsOk ss vs = true → Vals (ss.map V.str) vs
  | [], [], _ => .nil
  | [], _ :: _, h => by cases h
  | _ :: _, [], h => by cases h
  | s :: ss, v :: vs, h => by
    cases v <;> try (cases h; done)
    rename_i z t
    have h : (decide (s = z) && strsOk ss vs) = true := h
    simp only [Bool.and_eq_true, decide_eq_true_eq] at h
    obtain ⟨h1, h2⟩ := h
    subst h1
    exact .cons ⟨t, rfl⟩ (strsOk_vals h2)
theorem rvs_strs {G : Hp} : ∀ ss : List Str, RVs K G (ss.map D.str) (ss.map V.str)
  | [] => rfl
  | s :: ss => RVs.cons rfl (rvs_strs ss)
theorem gl_tup (X : K.In h) (G : h.Ns mainGlobals mg) {x : Str} {ss : List Str} {b : Addr} {od : Option Addr} {its : List Value} {n : Nat} {sl : Array (Option Value)} (a : PySem.W.nsIn K mainGlobals x = some (some (.ref b)))
    (l : K.lookup b = some ⟨.type "tuple", od, .seq its.toArray n, sl⟩) (s : strsOk ss its = true) (z : its.length ≤ 1000) : ∃ (u : Value) (v : V), mg x = some u ∧ RelV v u ∧ ∀ G, RV K G (.tup (ss.map D.str)) v := by
  refine ⟨_, .ref b, PySem.W.mg_of X G a, rfl, fun G => ⟨b, ss.map V.str, rfl, .inr ⟨_, its.toArray, n, l, rfl, rfl, ?_, ?_⟩, rvs_strs ss⟩⟩
  · rw [List.size_toArray, sizeLine_eq]
    exact Nat.le_trans z (by decide)
  · simpa using strsOk_vals s
/-- the law's function, k deep -/
theorem law_F {Pg : Program} {w : World} {P : Prog} {FN : List Str} {ts : List DefT} {l : List (Addr × FuncData)} {k iL : Nat} {tL : DefT} {fdL : FDef} {x : Str} {fa : Addr} (hall : AllAt K mg ts l) (hc : chkAll P FN ts = true) (bt : ∀ x ∈ bnames, mg x = none)
    (gl : ∀ (i : Nat) (x : Str) (d : D), P.gt[i]? = some (x, d) → ∃ (u : Value) (v : V), mg x = some u ∧ RelV v u ∧ ∀ G, RV K G d v) (hL : ts[iL]? = some tL) (hfL : P.fs[iL]? = some fdL) (hp : tL.ps = [x]) (hio : fdL.io = [false]) (hfa : mg tL.name = some (.ref fa)) :
    ∃ (fd : FuncData) (c : Cfg), c.K = K ∧ Binds K fd [x] [] ∧ ∀ base : Heap, K.In base → base.Ns mainGlobals mg → FnG Pg w K mg base (L2.CX Pg w) k fa fd [x] (spG c [false] fdL.rf (callN shownD P k iL)) := by
  obtain ⟨h1, h2⟩ := chkAll_at hc
  have aL := hall.get hL
  have e := aL.mg.symm.trans hfa
  cases e
  refine ⟨(tabOf l iL).2, cfg0 K P (fun _ => 0) (fun _ => none), rfl, ?_, fun base _ _ => ?_⟩
  · rw [← hp]; exact aL.bi
  · rw [← hp, ← hio]
    exact prog_ok (P := P) (FN := FN) (tab := tabOf l) (fun i t e => ⟨hall.get e, h2 i t e⟩) h1 bt gl k iL tL fdL hL hfL
end
end VL

/-! VL19: the evaluator, step by step. -/
namespace VL
open PySem PySem.Spec L2
section
variable {P : Prog} {cf : Nat → List D → VL.CR}
structure Ev (P : Prog) (cf : Nat → List D → VL.CR) (m : ME) (r : Env) (xs : List D) (r' : Env) : Prop where
  h : m.ev shownD P cf r = .ok xs r'
structure Tv (P : Prog) (cf : Nat → List D → VL.CR) (m : ME) (r : Env) (b : Bool) (r' : Env) : Prop where
  h : evC shownD P cf m r = .ok b r'
structure Sv (P : Prog) (cf : Nat → List D → VL.CR) (rf : Bool) (m : MS) (r : Env) (f : Fl) (r' : Env) : Prop where
  h : m.ev shownD P cf rf r = .ok f r'
structure Cv (P : Prog) (cf : Nat → List D → VL.CR) (own : List Nat) (tg : MG) (cc e : ME) (acc xs : List D) (r : Env) (ys : List D) (r' : Env) : Prop where
  h : compLoop own tg (cc.ev shownD P cf) (e.ev shownD P cf) acc xs r = .ok ys r'
structure Lv (P : Prog) (cf : Nat → List D → VL.CR) (rf : Bool) (tg : MG) (body : MS) (xs : List D) (r : Env) (f : Fl) (r' : Env) : Prop where
  h : forLoop tg (body.ev shownD P cf rf) xs r = .ok f r'
structure Kv (cf : Nat → List D → VL.CR) (f : Nat) (xs : List D) (d : D) (outs : List D) : Prop where
  h : cf f xs = .ok d outs
inductive CondP : Bool → Prop → Prop → Prop
  | t {A B : Prop} (h : A) : CondP true A B
  | f {A B : Prop} (h : B) : CondP false A B
theorem CondP.gt {A B : Prop} (h : CondP true A B) : A := by cases h; assumption
theorem CondP.gf {A B : Prop} (h : CondP false A B) : B := by cases h; assumption
theorem cp_t {A B : Prop} (h : A) : CondP true A B := .t h
theorem cp_f {A B : Prop} (h : B) : CondP false A B := .f h
theorem cp_tb {t : Bool} {A B : Prop} (e : t = true) (h : A) : CondP t A B := by rw [e]; exact .t h
theorem cp_fb {t : Bool} {A B : Prop} (e : t = false) (h : B) : CondP t A B := by rw [e]; exact .f h
theorem cp_not {t : Bool} {A B : Prop} (h : CondP t B A) : CondP (!t) A B := by
  cases t
  · exact .t h.gf
  · exact .f h.gt
theorem cp_any {t : Bool} {A B : Prop} (h1 : t = true → A) (h2 : t = false → B) : CondP t A B := by
  cases t
  · exact .f (h2 rfl)
  · exact .t (h1 rfl)
variable {r r1 r2 r3 : Env} {d x y : D} {xs ys zs : List D} {a b m cc : ME}
theorem e_kst : Ev P cf (.kst d) r [d] r := ⟨rfl⟩
theorem e_glb {i : Nat} {n : Str} (h : P.gt[i]? = some (n, d)) : Ev P cf (.glb i) r [d] r := by
  constructor
  show (match P.gt[i]? with
    | some x => Out.ok [x.2] r
    | none => .stk) = _
  rw [h]
theorem e_nm {j : Nat} (h : peek r j = some d) : Ev P cf (.nm j) r [d] r := by
  constructor
  show (match peek r j with
    | some d => Out.ok [d] r
    | none => .stk) = _
  rw [h]
theorem e_cap {j : Nat} (h : capE r j = some (d, r1)) : Ev P cf (.cap j) r [d] r1 := by
  constructor
  show (match capE r j with
    | some (d, r') => Out.ok [d] r'
    | none => .stk) = _
  rw [h]
theorem e_nil : Ev P cf .nil r [] r := ⟨rfl⟩
theorem e_cons (h1 : Ev P cf a r [d] r1) (h2 : Ev P cf m r1 ys r2) : Ev P cf (.cons a m) r (d :: ys) r2 := by
  constructor
  show ((a.ev shownD P cf r).bind fun x r1 => (m.ev shownD P cf r1).bind fun y r2 => Out.ok (x ++ y) r2) = _
  rw [h1.h]
  show ((m.ev shownD P cf r1).bind fun y r2 => Out.ok ([d] ++ y) r2) = _
  rw [h2.h]
  rfl
theorem e_op {o : Op} (h1 : Ev P cf a r xs r1) (h2 : a.fresh xs r1 = some ys) (h3 : ap o ys = some d) : Ev P cf (.op o a) r [d] r1 := by
  constructor
  show ((a.ev shownD P cf r).bind fun x r1 => match a.fresh x r1 with
    | some x => match ap o x with
      | some d => Out.ok [d] r1
      | none => .stk
    | none => .stk) = _
  rw [h1.h]
  show (match a.fresh xs r1 with
    | some x => match ap o x with
      | some d => Out.ok [d] r1
      | none => .stk
    | none => .stk) = _
  rw [h2]
  show (match ap o ys with
      | some d => Out.ok [d] r1
      | none => .stk) = _
  rw [h3]
theorem e_chain {o1 o2 : Op} {t : Bool} {ab z : ME} (h1 : Ev P cf ab r xs r1) (h2 : ab.fresh xs r1 = some ys) (h3 : ap o1 ys = some (.bl t))
    (h4 : CondP t (∃ zs u v w, Ev P cf z r1 zs r2 ∧ ab.fresh ys r2 = some [u, v] ∧ (ME.cons z .nil).fresh zs r2 = some [w] ∧ ap o2 [v, w] = some d) (d = .bl false ∧ r2 = r1)) : Ev P cf (.chain o1 o2 ab z) r [d] r2 := by
  constructor
  show ((ab.ev shownD P cf r).bind fun x r1 => match ab.fresh x r1 with
    | some x => match ap o1 x with
      | some (.bl true) => (z.ev shownD P cf r1).bind fun z' r2 => match ab.fresh x r2 with
        | some [_, y] => match (ME.cons z .nil).fresh z' r2 with
          | some [z] => match ap o2 [y, z] with
            | some d => Out.ok [d] r2
            | none => .stk
          | _ => .stk
        | _ => .stk
      | some (.bl false) => .ok [.bl false] r1
      | _ => .stk
    | none => .stk) = _
  rw [h1.h]
  show (match ab.fresh xs r1 with
    | some x => match ap o1 x with
      | some (.bl true) => (z.ev shownD P cf r1).bind fun z' r2 => match ab.fresh x r2 with
        | some [_, y] => match (ME.cons z .nil).fresh z' r2 with
          | some [z] => match ap o2 [y, z] with
            | some d => Out.ok [d] r2
            | none => .stk
          | _ => .stk
        | _ => .stk
      | some (.bl false) => .ok [.bl false] r1
      | _ => .stk
    | none => .stk) = _
  rw [h2]
  dsimp only
  rw [h3]
  cases t with
  | false => obtain ⟨rfl, rfl⟩ := h4.gf; rfl
  | true =>
    obtain ⟨zs, u, v, w, q1, q2, q3, q4⟩ := h4.gt
    show ((z.ev shownD P cf r1).bind _) = _
    rw [q1.h]
    show (match ab.fresh ys r2 with
        | some [_, y] => match (ME.cons z .nil).fresh zs r2 with
          | some [z] => match ap o2 [y, z] with
            | some d => Out.ok [d] r2
            | none => .stk
          | _ => .stk
        | _ => .stk) = _
    rw [q2]
    dsimp only
    rw [q3]
    dsimp only
    rw [q4]
theorem e_and {t : Bool} (h1 : Ev P cf a r [x] r1) (h2 : x.tru = some t) (h3 : CondP t (Ev P cf b r1 ys r2) (ys = [x] ∧ r2 = r1)) : Ev P cf (.and_ a b) r ys r2 := by
  constructor
  show ((a.ev shownD P cf r).bind fun x r1 => match x with
    | [x] => match x.tru with
      | some true => b.ev shownD P cf r1
      | some false => Out.ok [x] r1
      | none => .stk
    | _ => .stk) = _
  rw [h1.h]
  show (match x.tru with
      | some true => b.ev shownD P cf r1
      | some false => Out.ok [x] r1
      | none => .stk) = _
  rw [h2]
  cases t with
  | false => obtain ⟨rfl, rfl⟩ := h3.gf; rfl
  | true => exact h3.gt.h
theorem e_or {t : Bool} (h1 : Ev P cf a r [x] r1) (h2 : x.tru = some t) (h3 : CondP t (ys = [x] ∧ r2 = r1) (Ev P cf b r1 ys r2)) : Ev P cf (.or_ a b) r ys r2 := by
  constructor
  show ((a.ev shownD P cf r).bind fun x r1 => match x with
    | [x] => match x.tru with
      | some true => Out.ok [x] r1
      | some false => b.ev shownD P cf r1
      | none => .stk
    | _ => .stk) = _
  rw [h1.h]
  show (match x.tru with
      | some true => Out.ok [x] r1
      | some false => b.ev shownD P cf r1
      | none => .stk) = _
  rw [h2]
  cases t with
  | true => obtain ⟨rfl, rfl⟩ := h3.gt; rfl
  | false => exact h3.gf.h
theorem t_of {t : Bool} (h1 : Ev P cf m r [x] r1) (h2 : x.tru = some t) : Tv P cf m r t r1 := by
  constructor
  show ((m.ev shownD P cf r).bind fun x r1 => match x with
    | [x] => match x.tru with
      | some b => Out.ok b r1
      | none => .stk
    | _ => .stk) = _
  rw [h1.h]
  show (match x.tru with
      | some b => Out.ok b r1
      | none => .stk) = _
  rw [h2]
theorem e_ite {t : Bool} (h1 : Ev P cf cc r [x] r1) (h2 : x.tru = some t) (h3 : CondP t (Ev P cf a r1 ys r2) (Ev P cf b r1 ys r2)) : Ev P cf (.ite cc a b) r ys r2 := by
  constructor
  show ((cc.ev shownD P cf r).bind fun x r1 => match x with
    | [x] => match x.tru with
      | some true => a.ev shownD P cf r1
      | some false => b.ev shownD P cf r1
      | none => .stk
    | _ => .stk) = _
  rw [h1.h]
  show (match x.tru with
      | some true => a.ev shownD P cf r1
      | some false => b.ev shownD P cf r1
      | none => .stk) = _
  rw [h2]
  cases t
  · exact h3.gf.h
  · exact h3.gt.h
theorem e_call {f : Nat} {sl : List Nat} {outs : List D} (h1 : Ev P cf a r xs r1) (h2 : a.fresh xs r1 = some ys) (h3 : Kv cf f ys d outs) (h4 : setOw r1 sl outs = some r2) : Ev P cf (.call f sl a) r [d] r2 := by
  constructor
  show ((a.ev shownD P cf r).bind fun x r1 => match a.fresh x r1 with
    | some x => match cf f x with
      | .ok d outs => match setOw r1 sl outs with
        | some r2 => Out.ok [d] r2
        | none => .stk
      | .err c fs outs => match setOw r1 sl outs with
        | some r2 => .err c fs r2
        | none => .stk
      | .stk => .stk
    | none => .stk) = _
  rw [h1.h]
  show (match a.fresh xs r1 with
    | some x => match cf f x with
      | .ok d outs => match setOw r1 sl outs with
        | some r2 => Out.ok [d] r2
        | none => .stk
      | .err c fs outs => match setOw r1 sl outs with
        | some r2 => .err c fs r2
        | none => .stk
      | .stk => .stk
    | none => .stk) = _
  rw [h2]
  dsimp only
  rw [h3.h]
  dsimp only
  rw [h4]
theorem e_mop {o : MOp} {j : Nat} {l : List D} {d' d2 : D} (h0 : r[j]? = some (.ow (.lst l))) (h1 : Ev P cf a r xs r1) (h2 : a.fresh xs r1 = some ys) (h3 : owned r1 j = some x) (h4 : o.ap x ys = some (d, d')) : Ev P cf (.mop o j a) r [d] (r1.set j (.ow d')) := by
  constructor
  show (match r[j]? with
    | some (.ow (.lst _)) => (a.ev shownD P cf r).bind fun x r1 => match a.fresh x r1, owned r1 j with
      | some x, some d => match o.ap d x with
        | some (y, d') => Out.ok [y] (r1.set j (.ow d'))
        | none => .stk
      | _, _ => .stk
    | _ => .stk) = _
  rw [h0]
  show ((a.ev shownD P cf r).bind _) = _
  rw [h1.h]
  show (match a.fresh xs r1, owned r1 j with
      | some x, some d => match o.ap d x with
        | some (y, d') => Out.ok [y] (r1.set j (.ow d'))
        | none => .stk
      | _, _ => .stk) = _
  rw [h2, h3]
  dsimp only
  rw [h4]
theorem e_comp {own : List Nat} {tg : MG} {it e : ME} (h1 : Ev P cf it r [x] r1) (h2 : itemsD x = some xs) (h3 : ownFree r1 own = true) (h4 : Cv P cf own tg cc e [] xs r1 ys r2) : Ev P cf (.comp own tg it cc e) r [.lst ys] (backE r1 r2 own) := by
  constructor
  show ((it.ev shownD P cf r).bind fun x r1 => match x with
    | [x] => match itemsD x with
      | some xs => if ownFree r1 own then
          (compLoop own tg (cc.ev shownD P cf) (e.ev shownD P cf) [] xs r1).nox.bind fun ys r2 => Out.ok [VL.D.lst ys] (backE r1 r2 own)
        else .stk
      | none => .stk
    | _ => .stk) = _
  rw [h1.h]
  show (match itemsD x with
      | some xs => if ownFree r1 own then
          (compLoop own tg (cc.ev shownD P cf) (e.ev shownD P cf) [] xs r1).nox.bind fun ys r2 => Out.ok [VL.D.lst ys] (backE r1 r2 own)
        else .stk
      | none => .stk) = _
  rw [h2]
  dsimp only
  rw [if_pos h3, h4.h]
  rfl
theorem c_nil {own : List Nat} {tg : MG} {e : ME} {acc : List D} : Cv P cf own tg cc e acc [] r acc r := ⟨rfl⟩
theorem c_cons {own : List Nat} {tg : MG} {e : ME} {acc : List D} {t : Bool} (h1 : tg.bind x (wipeE r own) = some r1) (h2 : Ev P cf cc r1 [y] r2) (h3 : y.tru = some t)
    (h4 : CondP t (∃ z r4, Ev P cf e r2 [z] r4 ∧ acc.length < line ∧ Cv P cf own tg cc e (acc ++ [z]) xs r4 ys r3) (Cv P cf own tg cc e acc xs r2 ys r3)) : Cv P cf own tg cc e acc (x :: xs) r ys r3 := by
  constructor
  show (match tg.bind x (wipeE r own) with
    | none => Out.stk
    | some r1 => (cc.ev shownD P cf r1).bind fun b r2 =>
      match b with
      | [b] => match b.tru with
        | some true => (e.ev shownD P cf r2).bind fun y r3 => match y with
          | [y] => if acc.length < line then compLoop own tg (cc.ev shownD P cf) (e.ev shownD P cf) (acc ++ [y]) xs r3 else .stk
          | _ => .stk
        | some false => compLoop own tg (cc.ev shownD P cf) (e.ev shownD P cf) acc xs r2
        | none => .stk
      | _ => .stk) = _
  rw [h1]
  show ((cc.ev shownD P cf r1).bind _) = _
  rw [h2.h]
  show (match y.tru with
        | some true => (e.ev shownD P cf r2).bind fun y r3 => match y with
          | [y] => if acc.length < line then compLoop own tg (cc.ev shownD P cf) (e.ev shownD P cf) (acc ++ [y]) xs r3 else .stk
          | _ => .stk
        | some false => compLoop own tg (cc.ev shownD P cf) (e.ev shownD P cf) acc xs r2
        | none => .stk) = _
  rw [h3]
  cases t with
  | false => exact h4.gf.h
  | true =>
    obtain ⟨z, r4, q1, q2, q3⟩ := h4.gt
    show ((e.ev shownD P cf r2).bind _) = _
    rw [q1.h]
    show (if acc.length < line then compLoop own tg (cc.ev shownD P cf) (e.ev shownD P cf) (acc ++ [z]) xs r4 else .stk) = _
    rw [if_pos q2]
    exact q3.h
/-- a comprehension by a function: what is kept, what each item gives; the environment as it was but for the block's own names -/
theorem c_map {own : List Nat} {tg : MG} {e : ME} (keep : D → Bool) (val : D → D) (I : Env → Prop) (hI : ∀ r x, I r → x ∈ xs → ∃ r1 y r2, tg.bind x (wipeE r own) = some r1 ∧ Ev P cf cc r1 [y] r2 ∧ y.tru = some (keep x) ∧
    (keep x = true → ∃ r4, Ev P cf e r2 [val x] r4 ∧ I r4) ∧ (keep x = false → I r2)) : ∀ (acc : List D) (r : Env), I r → acc.length + xs.length ≤ line → ∃ r', Cv P cf own tg cc e acc xs r (acc ++ (xs.filter keep).map val) r' ∧ I r' := by
  induction xs with
  | nil => exact fun acc r h _ => ⟨r, by rw [List.filter_nil, List.map_nil, List.append_nil]; exact c_nil, h⟩
  | cons x xs ih =>
    intro acc r h hl
    obtain ⟨r1, y, r2, e1, e2, e3, e4, e5⟩ := hI r x h List.mem_cons_self
    rw [List.length_cons] at hl
    cases hk : keep x with
    | true =>
      obtain ⟨r4, q1, q2⟩ := e4 hk
      obtain ⟨r', z1, z2⟩ := ih (fun r y q hy => hI r y q (List.mem_cons_of_mem _ hy)) (acc ++ [val x]) r4 q2 (by rw [List.length_append, List.length_singleton]; omega)
      refine ⟨r', c_cons e1 e2 e3 (cp_tb hk ⟨_, _, q1, by omega, ?_⟩), z2⟩
      rw [List.filter_cons_of_pos hk, List.map_cons]
      rw [List.append_assoc, List.singleton_append] at z1
      exact z1
    | false =>
      obtain ⟨r', z1, z2⟩ := ih (fun r y q hy => hI r y q (List.mem_cons_of_mem _ hy)) acc r2 (e5 hk) (by omega)
      refine ⟨r', c_cons e1 e2 e3 (cp_fb hk ?_), z2⟩
      rw [List.filter_cons_of_neg (by rw [hk]; exact Bool.false_ne_true)]
      exact z1
/-! statements -/
variable {rf : Bool} {s t : MS} {f : Fl}
theorem s_nil : Sv P cf rf .nil r .nx r := ⟨rfl⟩
theorem s_seq (h1 : Sv P cf rf s r .nx r1) (h2 : Sv P cf rf t r1 f r2) : Sv P cf rf (.seq s t) r f r2 := by
  constructor
  show ((s.ev shownD P cf rf r).bind fun f r1 => match f with
    | .nx => t.ev shownD P cf rf r1
    | f => .ok f r1) = _
  rw [h1.h]
  exact h2.h
theorem s_seqR (h1 : Sv P cf rf s r (.ret d) r1) : Sv P cf rf (.seq s t) r (.ret d) r1 := by
  constructor
  show ((s.ev shownD P cf rf r).bind fun f r1 => match f with
    | .nx => t.ev shownD P cf rf r1
    | f => .ok f r1) = _
  rw [h1.h]
theorem s_if {u : Bool} (h1 : Tv P cf cc r u r1) (h2 : CondP u (Sv P cf rf s r1 f r2) (Sv P cf rf t r1 f r2)) : Sv P cf rf (.ife cc s t) r f r2 := by
  constructor
  show ((evC shownD P cf cc r).bind fun u r1 => if u then s.ev shownD P cf rf r1 else t.ev shownD P cf rf r1) = _
  rw [h1.h]
  cases u
  · exact h2.gf.h
  · exact h2.gt.h
theorem s_asg {g : MG} {e : ME} (h1 : Ev P cf e r [d] r1) (h2 : asgE g (e.fr P) d r1 = some r2) : Sv P cf rf (.asg g e) r .nx r2 := by
  constructor
  show ((e.ev shownD P cf r).bind fun x r1 => match x with
    | [d] => match asgE g (e.fr P) d r1 with
      | some r2 => Out.ok Fl.nx r2
      | none => .stk
    | _ => .stk) = _
  rw [h1.h]
  show (match asgE g (e.fr P) d r1 with
      | some r2 => Out.ok Fl.nx r2
      | none => .stk) = _
  rw [h2]
theorem s_expr {e : ME} (h1 : Ev P cf e r xs r1) : Sv P cf rf (.expr e) r .nx r1 := by
  constructor
  show ((e.ev shownD P cf r).bind fun _ r1 => Out.ok Fl.nx r1) = _
  rw [h1.h]
theorem s_seti {j : Nat} {ke v : ME} {l : List D} {d' z : D} (h0 : r[j]? = some (.ow (.lst l))) (h1 : Ev P cf v r [x] r1) (h2 : Ev P cf ke r1 [y] r2) (h3 : owned r2 j = some d) (h4 : MOp.seti.ap d [y, x] = some (z, d')) : Sv P cf rf (.seti j ke v) r .nx (r2.set j (.ow d')) := by
  constructor
  show (match r[j]? with
    | some (.ow (.lst _)) => (v.ev shownD P cf r).bind fun x r1 => (ke.ev shownD P cf r1).bind fun y r2 => match x, y, owned r2 j with
      | [v], [k], some d => match MOp.seti.ap d [k, v] with
        | some (_, d') => Out.ok Fl.nx (r2.set j (.ow d'))
        | none => .stk
      | _, _, _ => .stk
    | _ => .stk) = _
  rw [h0]
  show ((v.ev shownD P cf r).bind _) = _
  rw [h1.h]
  show ((ke.ev shownD P cf r1).bind _) = _
  rw [h2.h]
  show (match [x], [y], owned r2 j with
      | [v], [k], some d => match MOp.seti.ap d [k, v] with
        | some (_, d') => Out.ok Fl.nx (r2.set j (.ow d'))
        | none => .stk
      | _, _, _ => .stk) = _
  rw [h3]
  dsimp only
  rw [h4]
theorem s_ret {e : ME} (hn : isNm e = false) (h1 : Ev P cf e r [d] r1) (h2 : (rf && !e.fr P && d.mutb) = false) : Sv P cf rf (.ret e) r (.ret d) r1 := by
  constructor
  have h : (MS.ret e).ev shownD P cf rf r = ((e.ev shownD P cf r).bind fun x r1 => match x with
      | [d] => if rf && !e.fr P && d.mutb then Out.stk else .ok (Fl.ret d) r1
      | _ => .stk) := by cases e <;> first | rfl | cases hn
  show (MS.ret e).ev shownD P cf rf r = _
  rw [h, h1.h]
  show (if rf && !e.fr P && d.mutb then Out.stk else .ok (Fl.ret d) r1) = _
  rw [h2]
  rfl
theorem s_for {tg : MG} {it : ME} {body : MS} (h1 : Ev P cf it r [x] r1) (h2 : itemsD x = some xs) (h3 : Lv P cf rf tg body xs r1 f r2) : Sv P cf rf (.for_ tg it body) r f r2 := by
  constructor
  show ((it.ev shownD P cf r).bind fun x r1 => match x with
    | [x] => match itemsD x with
      | some xs => forLoop tg (body.ev shownD P cf rf) xs r1
      | none => .stk
    | _ => .stk) = _
  rw [h1.h]
  show (match itemsD x with
      | some xs => forLoop tg (body.ev shownD P cf rf) xs r1
      | none => .stk) = _
  rw [h2]
  exact h3.h
/-- a loop that goes through, by an invariant -/
theorem l_inv {tg : MG} {body : MS} (I : Env → Prop) (hI : ∀ r x, I r → x ∈ xs → ∃ r1 r2, tg.bind x r = some r1 ∧ Sv P cf rf body r1 .nx r2 ∧ I r2) : ∀ r, I r → ∃ r', Lv P cf rf tg body xs r .nx r' ∧ I r' := by
  induction xs with
  | nil => exact fun r h => ⟨r, ⟨rfl⟩, h⟩
  | cons x xs ih =>
    intro r h
    obtain ⟨r1, r2, e1, e2, h2⟩ := hI r x h List.mem_cons_self
    obtain ⟨r', e3, h3⟩ := ih (fun r y q hy => hI r y q (List.mem_cons_of_mem _ hy)) r2 h2
    refine ⟨r', ⟨?_⟩, h3⟩
    show (match tg.bind x r with
      | none => Out.stk
      | some r1 => (body.ev shownD P cf rf r1).bind fun f r2 => match f with
        | .nx => forLoop tg (body.ev shownD P cf rf) xs r2
        | .ct => forLoop tg (body.ev shownD P cf rf) xs r2
        | .bk => .ok .nx r2
        | .ret d => .ok (.ret d) r2) = _
    rw [e1]
    show ((body.ev shownD P cf rf r1).bind _) = _
    rw [e2.h]
    exact e3.h
/-! a body, statement by statement -/
theorem q_start (h1 : Sv P cf rf (.seq s .nil) r f r2) : Sv P cf rf s r f r2 := by
  constructor
  have h : ((s.ev shownD P cf rf r).bind fun f r1 => match f with
    | .nx => Out.ok .nx r1
    | f => .ok f r1) = .ok f r2 := h1.h
  cases e : s.ev shownD P cf rf r with
  | stk => rw [e] at h; cases h
  | err n fs r => rw [e] at h; cases h
  | ok f' r' =>
    rw [e] at h
    cases f' <;> exact h
theorem q_nil (h1 : Sv P cf rf t r f r2) : Sv P cf rf (.seq .nil t) r f r2 := s_seq s_nil h1
theorem q_seq {u : MS} (h1 : Sv P cf rf (.seq s (.seq t u)) r f r2) : Sv P cf rf (.seq (.seq s t) u) r f r2 := by
  constructor
  have h : ((s.ev shownD P cf rf r).bind fun f r1 => match f with
    | .nx => (MS.seq t u).ev shownD P cf rf r1
    | f => .ok f r1) = .ok f r2 := h1.h
  show (((s.ev shownD P cf rf r).bind fun f r1 => match f with
    | .nx => t.ev shownD P cf rf r1
    | f => .ok f r1).bind fun f r1 => match f with
    | .nx => u.ev shownD P cf rf r1
    | f => .ok f r1) = _
  cases e : s.ev shownD P cf rf r with
  | stk => rw [e] at h; cases h
  | err n fs r => rw [e] at h; cases h
  | ok f' r' =>
    rw [e] at h
    cases f' <;> exact h
theorem q_asg {g : MG} {e : ME} (h1 : Ev P cf e r [d] r1) (h2 : asgE g (e.fr P) d r1 = some r2) (h3 : Sv P cf rf t r2 f r3) : Sv P cf rf (.seq (.asg g e) t) r f r3 := s_seq (s_asg h1 h2) h3
theorem q_expr {e : ME} (h1 : Ev P cf e r xs r1) (h3 : Sv P cf rf t r1 f r3) : Sv P cf rf (.seq (.expr e) t) r f r3 := s_seq (s_expr h1) h3
theorem q_seti {j : Nat} {ke v : ME} {l : List D} {d' z : D} (h0 : r[j]? = some (.ow (.lst l))) (h1 : Ev P cf v r [x] r1) (h2 : Ev P cf ke r1 [y] r2) (h3 : owned r2 j = some d) (h4 : MOp.seti.ap d [y, x] = some (z, d')) (h5 : Sv P cf rf t (r2.set j (.ow d')) f r3) : Sv P cf rf (.seq (.seti j ke v) t) r f r3 := s_seq (s_seti h0 h1 h2 h3 h4) h5
theorem q_ret {e : ME} (h1 : Ev P cf e r [d] r1) (h2 : (rf && !e.fr P && d.mutb) = false) (hn : isNm e = false) : Sv P cf rf (.seq (.ret e) t) r (.ret d) r1 := s_seqR (s_ret hn h1 h2)
def retJ (rf : Bool) (j : Nat) (r : Env) : Out Fl := match rf, r[j]? with
  | true, some (.ow d) => .ok (.ret d) r
  | true, some (.fz d) => if d.mutb then .stk else .ok (.ret d) r
  | false, some (.ow d) => .ok (.ret d) (r.set j (.fz d))
  | false, some (.fz d) => .ok (.ret d) r
  | _, _ => .stk
theorem q_retN {j : Nat} (h : retJ rf j r = .ok (.ret d) r1) : Sv P cf rf (.seq (.ret (.nm j)) t) r (.ret d) r1 := s_seqR ⟨h⟩
theorem q_if {u : Bool} {k : MS} (h1 : Tv P cf cc r u r1) (h2 : CondP u (Sv P cf rf (.seq s k) r1 f r2) (Sv P cf rf (.seq t k) r1 f r2)) : Sv P cf rf (.seq (.ife cc s t) k) r f r2 := by
  constructor
  show (((evC shownD P cf cc r).bind fun u r1 => if u then s.ev shownD P cf rf r1 else t.ev shownD P cf rf r1).bind fun f r1 => match f with
    | .nx => k.ev shownD P cf rf r1
    | f => .ok f r1) = _
  rw [h1.h]
  cases u
  · exact h2.gf.h
  · exact h2.gt.h
theorem q_for {tg : MG} {it : ME} {body : MS} (h1 : Ev P cf it r [x] r1) (h2 : itemsD x = some xs) (h3 : Lv P cf rf tg body xs r1 .nx r2) (h4 : Sv P cf rf t r2 f r3) : Sv P cf rf (.seq (.for_ tg it body) t) r f r3 := s_seq (s_for h1 h2 h3) h4
/-- a call -/
theorem call_ok {fd : FDef} {k i : Nat} {ds : List D} {outs : List D} (h0 : P.fs[i]? = some fd) (h1 : ds.length = fd.io.length) (h2 : Sv P (callN shownD P k) fd.rf fd.body (startE fd.nslots fd.io ds) (.ret d) r) (h3 : iosOf fd.io r = some outs) : Kv (callN shownD P (k + 1)) i ds d outs := by
  constructor
  show (match P.fs[i]? with
    | some fd => fd.run shownD P (callN shownD P k) ds
    | none => .stk) = _
  rw [h0]
  show (if ds.length = fd.io.length then
    match fd.body.ev shownD P (callN shownD P k) fd.rf (startE fd.nslots fd.io ds) with
    | .ok f r => match f, iosOf fd.io r with
      | .nx, some outs => VL.CR.ok .non outs
      | .ret d, some outs => .ok d outs
      | _, _ => .stk
    | .err c fs r => match iosOf fd.io r with
      | some outs => .err c fs outs
      | none => .stk
    | .stk => .stk
  else .stk) = _
  rw [if_pos h1, h2.h]
  dsimp only
  rw [h3]
end
end VL

namespace VL.Claim
open PySem PySem.Spec L2 VL
/-! printed by gen.py -/
def topS (i : Nat) : Stmt := PySem.Challenge.pw_factsandfar_k01_concepts_and_axioms.main.body.getD i (.Pass ⟨0, 0, 0, 0⟩)
def b_is_string_of : MS := (.seq (.ife (.or_ (.op .not_ (.cons (.op (.isi .str) (.cons (.nm 0) .nil)) .nil)) (.op .not_ (.cons (.chain .le .le (.cons (.kst (.int 1)) (.cons (.op .len (.cons (.nm 0) .nil)) .nil)) (.glb 0)) .nil))) (.seq (.ret (.kst (.bl false)))
    .nil) .nil)
    (.seq (.ret (.op .all (.cons (.comp [2] (.sl 2) (.cap 0) (.kst (.bl true)) (.op .isin (.cons (.nm 2) (.cons (.nm 1) .nil)))) .nil)))
    .nil))
abbrev f_is_string_of : FDef := ⟨3, [false, false], true, b_is_string_of⟩
abbrev t_is_string_of : DefT := ⟨"is_string_of", ["candidate", "characters", "character"], ["candidate", "characters"], defScope (topS 6), defBody (topS 6)⟩
def b_is_word : MS := (.seq (.ret (.call 0 [] (.cons (.cap 0) (.cons (.glb 1) .nil))))
    .nil)
abbrev f_is_word : FDef := ⟨1, [false], true, b_is_word⟩
abbrev t_is_word : DefT := ⟨"is_word", ["candidate"], ["candidate"], defScope (topS 7), defBody (topS 7)⟩
def b_is_direction : MS := (.seq (.ife (.or_ (.op .not_ (.cons (.op (.isi .tuple) (.cons (.nm 0) .nil)) .nil)) (.or_ (.op .ne (.cons (.op .len (.cons (.nm 0) .nil)) (.cons (.kst (.int 2)) .nil))) (.op .not_ (.cons (.op (.isi .str) (.cons (.op .ix (.cons (.nm 0) (.cons (.kst (.int 0)) .nil))) .nil)) .nil)))) (.seq (.ret (.kst (.bl false)))
    .nil) .nil)
    (.seq (.ret (.and_ (.op .isin (.cons (.op .ix (.cons (.nm 0) (.cons (.kst (.int 0)) .nil))) (.cons (.glb 2) .nil))) (.call 1 [] (.cons (.op .ix (.cons (.nm 0) (.cons (.kst (.int 1)) .nil))) .nil))))
    .nil))
abbrev f_is_direction : FDef := ⟨1, [false], true, b_is_direction⟩
abbrev t_is_direction : DefT := ⟨"is_direction", ["candidate"], ["candidate"], defScope (topS 8), defBody (topS 8)⟩
def b_is_concept : MS := (.seq (.ife (.call 2 [] (.cons (.cap 0) .nil)) (.seq (.ret (.kst (.bl true)))
    .nil) .nil)
    (.seq (.ife (.or_ (.op .not_ (.cons (.op (.isi .tuple) (.cons (.nm 0) .nil)) .nil)) (.or_ (.op .ne (.cons (.op .len (.cons (.nm 0) .nil)) (.cons (.kst (.int 2)) .nil))) (.op .not_ (.cons (.op (.isi .str) (.cons (.op .ix (.cons (.nm 0) (.cons (.kst (.int 0)) .nil))) .nil)) .nil)))) (.seq (.ret (.kst (.bl false)))
    .nil) .nil)
    (.seq (.ret (.and_ (.op .eq (.cons (.op .ix (.cons (.nm 0) (.cons (.kst (.int 0)) .nil))) (.cons (.kst (.str "concept")) .nil))) (.call 1 [] (.cons (.op .ix (.cons (.nm 0) (.cons (.kst (.int 1)) .nil))) .nil))))
    .nil)))
abbrev f_is_concept : FDef := ⟨1, [false], true, b_is_concept⟩
abbrev t_is_concept : DefT := ⟨"is_concept", ["candidate"], ["candidate"], defScope (topS 9), defBody (topS 9)⟩
def b_is_axiom : MS := (.seq (.ife (.or_ (.op .not_ (.cons (.op (.isi .tuple) (.cons (.nm 0) .nil)) .nil)) (.or_ (.op .not_ (.cons (.chain .le .le (.cons (.kst (.int 2)) (.cons (.op .len (.cons (.nm 0) .nil)) .nil)) (.kst (.int 3))) .nil)) (.op .not_ (.cons (.op (.isi .str) (.cons (.op .ix (.cons (.nm 0) (.cons (.kst (.int 0)) .nil))) .nil)) .nil)))) (.seq (.ret (.kst (.bl false)))
    .nil) .nil)
    (.seq (.ife (.op .eq (.cons (.op .len (.cons (.nm 0) .nil)) (.cons (.kst (.int 2)) .nil))) (.seq (.ret (.and_ (.op .eq (.cons (.op .ix (.cons (.nm 0) (.cons (.kst (.int 0)) .nil))) (.cons (.kst (.str "functional")) .nil))) (.call 2 [] (.cons (.op .ix (.cons (.nm 0) (.cons (.kst (.int 1)) .nil))) .nil))))
    .nil) .nil)
    (.seq (.ife (.op .isin (.cons (.op .ix (.cons (.nm 0) (.cons (.kst (.int 0)) .nil))) (.cons (.glb 4) .nil))) (.seq (.ret (.and_ (.call 3 [] (.cons (.op .ix (.cons (.nm 0) (.cons (.kst (.int 1)) .nil))) .nil)) (.call 3 [] (.cons (.op .ix (.cons (.nm 0) (.cons (.kst (.int 2)) .nil))) .nil))))
    .nil) .nil)
    (.seq (.ret (.and_ (.op .isin (.cons (.op .ix (.cons (.nm 0) (.cons (.kst (.int 0)) .nil))) (.cons (.glb 3) .nil))) (.and_ (.call 1 [] (.cons (.op .ix (.cons (.nm 0) (.cons (.kst (.int 1)) .nil))) .nil)) (.call 1 [] (.cons (.op .ix (.cons (.nm 0) (.cons (.kst (.int 2)) .nil))) .nil)))))
    .nil))))
abbrev f_is_axiom : FDef := ⟨1, [false], true, b_is_axiom⟩
abbrev t_is_axiom : DefT := ⟨"is_axiom", ["candidate"], ["candidate"], defScope (topS 10), defBody (topS 10)⟩
def b_law_stream : MS := (.seq (.asg (.sl 2) (.kst (.int 0)))
    (.seq (.ife (.op .lt (.cons (.nm 1) (.cons (.op .len (.cons (.nm 0) .nil)) .nil))) (.seq (.asg (.sl 2) (.op .ix (.cons (.nm 0) (.cons (.nm 1) .nil))))
    .nil) .nil)
    (.seq (.asg (.sl 3) (.op .max2 (.cons (.nm 2) (.cons (.op .sub (.cons (.op .neg (.cons (.kst (.int 1)) .nil)) (.cons (.nm 2) .nil))) .nil))))
    (.seq (.asg (.sl 4) (.op .mod (.cons (.op .mul (.cons (.op .add (.cons (.op .add (.cons (.op .add (.cons (.op .mod (.cons (.nm 3) (.cons (.kst (.int 2147483629)) .nil))) (.cons (.op .mul (.cons (.op .mul (.cons (.kst (.int 7919)) (.cons (.nm 1) .nil))) (.cons (.nm 1) .nil))) .nil))) (.cons (.op .mul (.cons (.kst (.int 31)) (.cons (.nm 1) .nil))) .nil))) (.cons (.kst (.int 17)) .nil))) (.cons (.kst (.int 48271)) .nil))) (.cons (.kst (.int 2147483647)) .nil))))
    (.seq (.ret (.op .lst (.cons (.op .mul (.cons (.nm 3) (.cons (.op .toInt (.cons (.op .ge (.cons (.nm 3) (.cons (.op .pow (.cons (.kst (.int 10)) (.cons (.kst (.int 18)) .nil))) .nil))) .nil)) .nil))) (.cons (.cap 4) .nil))))
    .nil)))))
abbrev f_law_stream : FDef := ⟨5, [false, false], true, b_law_stream⟩
abbrev t_law_stream : DefT := ⟨"_law_stream", ["script", "k", "cell", "size", "mixed"], ["script", "k"], defScope (topS 12), defBody (topS 12)⟩
def b_law_draw : MS := (.seq (.ife (.op .gt (.cons (.op .ix (.cons (.nm 0) (.cons (.kst (.int 0)) .nil))) (.cons (.kst (.int 0)) .nil))) (.seq (.asg (.sl 2) (.op .mod (.cons (.op .ix (.cons (.nm 0) (.cons (.kst (.int 0)) .nil))) (.cons (.nm 1) .nil))))
    (.seq (.seti 0 (.kst (.int 0)) (.op .fdiv (.cons (.op .ix (.cons (.nm 0) (.cons (.kst (.int 0)) .nil))) (.cons (.nm 1) .nil))))
    (.seq (.ret (.nm 2))
    .nil))) .nil)
    (.seq (.seti 0 (.kst (.int 1)) (.op .mod (.cons (.op .add (.cons (.op .mul (.cons (.op .ix (.cons (.nm 0) (.cons (.kst (.int 1)) .nil))) (.cons (.kst (.int 69621)) .nil))) (.cons (.kst (.int 7)) .nil))) (.cons (.kst (.int 2147483647)) .nil))))
    (.seq (.ret (.op .mod (.cons (.op .fdiv (.cons (.op .mod (.cons (.op .mul (.cons (.op .ix (.cons (.nm 0) (.cons (.kst (.int 1)) .nil))) (.cons (.op .ix (.cons (.nm 0) (.cons (.kst (.int 1)) .nil))) .nil))) (.cons (.kst (.int 2147483629)) .nil))) (.cons (.kst (.int 32)) .nil))) (.cons (.nm 1) .nil))))
    .nil)))
abbrev f_law_draw : FDef := ⟨3, [true, false], true, b_law_draw⟩
abbrev t_law_draw : DefT := ⟨"_law_draw", ["stream", "count", "result"], ["stream", "count"], defScope (topS 13), defBody (topS 13)⟩
def b_law_choose : MS := (.seq (.ret (.op .ix (.cons (.nm 1) (.cons (.call 6 [0] (.cons (.nm 0) (.cons (.op .len (.cons (.nm 1) .nil)) .nil))) .nil))))
    .nil)
abbrev f_law_choose : FDef := ⟨2, [true, false], false, b_law_choose⟩
abbrev t_law_choose : DefT := ⟨"_law_choose", ["stream", "items"], ["stream", "items"], defScope (topS 14), defBody (topS 14)⟩
def b_law_names : MS := (.seq (.asg (.sl 1) (.op .ix (.cons (.op .lst (.cons (.kst (.str "")) (.cons (.kst (.str "k")) (.cons (.kst (.str "zzzzzzz")) .nil)))) (.cons (.call 6 [0] (.cons (.nm 0) (.cons (.kst (.int 3)) .nil))) .nil))))
    (.seq (.asg (.sl 2) (.comp [4] (.sl 4) (.kst (.str "abcd")) (.kst (.bl true)) (.op .add (.cons (.nm 1) (.cons (.nm 4) .nil)))))
    (.seq (.asg (.sl 3) (.comp [4] (.sl 4) (.kst (.str "rst")) (.kst (.bl true)) (.op .add (.cons (.nm 1) (.cons (.nm 4) .nil)))))
    (.seq (.ret (.op .tup (.cons (.cap 2) (.cons (.op .ix (.cons (.op .lst (.cons (.cap 3) (.cons (.op (.sl false true) (.cons (.nm 2) (.cons (.kst (.int 3)) .nil))) .nil))) (.cons (.op .toInt (.cons (.op .eq (.cons (.call 6 [0] (.cons (.nm 0) (.cons (.kst (.int 4)) .nil))) (.cons (.kst (.int 0)) .nil))) .nil)) .nil))) .nil))))
    .nil))))
abbrev f_law_names : FDef := ⟨5, [true], true, b_law_names⟩
abbrev t_law_names : DefT := ⟨"_law_names", ["stream", "head", "concept_names", "role_names", "sign"], ["stream"], defScope (topS 15), defBody (topS 15)⟩
def b_law_concept : MS := (.seq (.asg (.sl 2) (.op .ix (.cons (.op .lst (.cons (.kst (.str "concept")) (.cons (.kst (.str "concept")) (.cons (.kst (.str "out")) (.cons (.kst (.str "in")) .nil))))) (.cons (.call 6 [0] (.cons (.nm 0) (.cons (.kst (.int 4)) .nil))) .nil))))
    (.seq (.ret (.op .tup (.cons (.cap 2) (.cons (.call 7 [0] (.cons (.nm 0) (.cons (.op .ix (.cons (.nm 1) (.cons (.op .toInt (.cons (.op .ne (.cons (.nm 2) (.cons (.kst (.str "concept")) .nil))) .nil)) .nil))) .nil))) .nil))))
    .nil))
abbrev f_law_concept : FDef := ⟨3, [true, false], true, b_law_concept⟩
abbrev t_law_concept : DefT := ⟨"_law_concept", ["stream", "names", "word"], ["stream", "names"], defScope (topS 16), defBody (topS 16)⟩
def b_law_axiom : MS := (.seq (.asg (.sl 3) (.call 7 [0] (.cons (.nm 0) (.cons (.cap 2) .nil))))
    (.seq (.ife (.or_ (.op .eq (.cons (.nm 3) (.cons (.kst (.str "subclass")) .nil))) (.op .eq (.cons (.nm 3) (.cons (.kst (.str "disjoint")) .nil)))) (.seq (.ret (.op .tup (.cons (.cap 3) (.cons (.call 9 [0] (.cons (.nm 0) (.cons (.cap 1) .nil))) (.cons (.call 9 [0] (.cons (.nm 0) (.cons (.cap 1) .nil))) .nil)))))
    .nil) .nil)
    (.seq (.ife (.op .eq (.cons (.nm 3) (.cons (.kst (.str "functional")) .nil))) (.seq (.ret (.op .tup (.cons (.cap 3) (.cons (.op .tup (.cons (.op .ix (.cons (.op .lst (.cons (.kst (.str "out")) (.cons (.kst (.str "in")) .nil))) (.cons (.call 6 [0] (.cons (.nm 0) (.cons (.kst (.int 2)) .nil))) .nil))) (.cons (.call 7 [0] (.cons (.nm 0) (.cons (.op .ix (.cons (.nm 1) (.cons (.kst (.int 1)) .nil))) .nil))) .nil))) .nil))))
    .nil) .nil)
    (.seq (.ret (.op .tup (.cons (.cap 3) (.cons (.call 7 [0] (.cons (.nm 0) (.cons (.op .ix (.cons (.nm 1) (.cons (.kst (.int 1)) .nil))) .nil))) (.cons (.call 7 [0] (.cons (.nm 0) (.cons (.op .ix (.cons (.nm 1) (.cons (.kst (.int 1)) .nil))) .nil))) .nil)))))
    .nil))))
abbrev f_law_axiom : FDef := ⟨4, [true, false, false], true, b_law_axiom⟩
abbrev t_law_axiom : DefT := ⟨"_law_axiom", ["stream", "names", "menu", "word"], ["stream", "names", "menu"], defScope (topS 17), defBody (topS 17)⟩
def b_law_is_word : MS := (.seq (.ife (.or_ (.op .not_ (.cons (.op (.isi .str) (.cons (.nm 0) .nil)) .nil)) (.op .not_ (.cons (.chain .le .le (.cons (.kst (.int 1)) (.cons (.op .len (.cons (.nm 0) .nil)) .nil)) (.kst (.int 8))) .nil))) (.seq (.ret (.kst (.bl false)))
    .nil) .nil)
    (.seq (.ret (.op .eq (.cons (.comp [1] (.sl 1) (.cap 0) (.op .notin (.cons (.nm 1) (.cons (.kst (.str "abcdefghijklmnopqrstuvwxyz")) .nil))) (.cap 1)) (.cons (.op .lst .nil) .nil))))
    .nil))
abbrev f_law_is_word : FDef := ⟨2, [false], true, b_law_is_word⟩
abbrev t_law_is_word : DefT := ⟨"_law_is_word", ["value", "sign"], ["value"], defScope (topS 20), defBody (topS 20)⟩
def b_law_concept_ok : MS := (.seq (.ife (.or_ (.op .not_ (.cons (.op (.isi .tuple) (.cons (.nm 0) .nil)) .nil)) (.or_ (.op .ne (.cons (.op .len (.cons (.nm 0) .nil)) (.cons (.kst (.int 2)) .nil))) (.op .not_ (.cons (.op (.isi .str) (.cons (.op .ix (.cons (.nm 0) (.cons (.kst (.int 0)) .nil))) .nil)) .nil)))) (.seq (.ret (.kst (.bl false)))
    .nil) .nil)
    (.seq (.ret (.and_ (.op .isin (.cons (.op .ix (.cons (.nm 0) (.cons (.kst (.int 0)) .nil))) (.cons (.op .tup (.cons (.kst (.str "concept")) (.cons (.kst (.str "out")) (.cons (.kst (.str "in")) .nil)))) .nil))) (.call 11 [] (.cons (.op .ix (.cons (.nm 0) (.cons (.kst (.int 1)) .nil))) .nil))))
    .nil))
abbrev f_law_concept_ok : FDef := ⟨1, [false], true, b_law_concept_ok⟩
abbrev t_law_concept_ok : DefT := ⟨"_law_concept_ok", ["value"], ["value"], defScope (topS 21), defBody (topS 21)⟩
def b_law_axiom_ok : MS := (.seq (.ife (.or_ (.op .not_ (.cons (.op (.isi .tuple) (.cons (.nm 0) .nil)) .nil)) (.or_ (.op .lt (.cons (.op .len (.cons (.nm 0) .nil)) (.cons (.kst (.int 2)) .nil))) (.op .not_ (.cons (.op (.isi .str) (.cons (.op .ix (.cons (.nm 0) (.cons (.kst (.int 0)) .nil))) .nil)) .nil)))) (.seq (.ret (.kst (.bl false)))
    .nil) .nil)
    (.seq (.ife (.op .eq (.cons (.op .ix (.cons (.nm 0) (.cons (.kst (.int 0)) .nil))) (.cons (.kst (.str "functional")) .nil))) (.seq (.ret (.and_ (.op .eq (.cons (.op .len (.cons (.nm 0) .nil)) (.cons (.kst (.int 2)) .nil))) (.and_ (.call 12 [] (.cons (.op .ix (.cons (.nm 0) (.cons (.kst (.int 1)) .nil))) .nil)) (.op .ne (.cons (.op .ix (.cons (.op .ix (.cons (.nm 0) (.cons (.kst (.int 1)) .nil))) (.cons (.kst (.int 0)) .nil))) (.cons (.kst (.str "concept")) .nil))))))
    .nil) .nil)
    (.seq (.ife (.op .ne (.cons (.op .len (.cons (.nm 0) .nil)) (.cons (.kst (.int 3)) .nil))) (.seq (.ret (.kst (.bl false)))
    .nil) .nil)
    (.seq (.ife (.op .isin (.cons (.op .ix (.cons (.nm 0) (.cons (.kst (.int 0)) .nil))) (.cons (.op .tup (.cons (.kst (.str "subclass")) (.cons (.kst (.str "disjoint")) .nil))) .nil))) (.seq (.ret (.and_ (.call 12 [] (.cons (.op .ix (.cons (.nm 0) (.cons (.kst (.int 1)) .nil))) .nil)) (.call 12 [] (.cons (.op .ix (.cons (.nm 0) (.cons (.kst (.int 2)) .nil))) .nil))))
    .nil) .nil)
    (.seq (.ife (.op .notin (.cons (.op .ix (.cons (.nm 0) (.cons (.kst (.int 0)) .nil))) (.cons (.op .tup (.cons (.kst (.str "subrole")) (.cons (.kst (.str "subrole_inverse")) (.cons (.kst (.str "disjoint_roles")) (.cons (.kst (.str "disjoint_inverse")) .nil))))) .nil))) (.seq (.ret (.kst (.bl false)))
    .nil) .nil)
    (.seq (.ret (.and_ (.call 11 [] (.cons (.op .ix (.cons (.nm 0) (.cons (.kst (.int 1)) .nil))) .nil)) (.call 11 [] (.cons (.op .ix (.cons (.nm 0) (.cons (.kst (.int 2)) .nil))) .nil))))
    .nil))))))
abbrev f_law_axiom_ok : FDef := ⟨1, [false], true, b_law_axiom_ok⟩
abbrev t_law_axiom_ok : DefT := ⟨"_law_axiom_ok", ["value"], ["value"], defScope (topS 22), defBody (topS 22)⟩
def b_law_check : MS := (.seq (.asg (.sl 1) (.op .repr (.cons (.nm 0) .nil)))
    (.seq (.asg (.sl 2) (.op .lst (.cons (.op .repr (.cons (.call 3 [] (.cons (.cap 0) .nil)) .nil)) (.cons (.op .repr (.cons (.call 4 [] (.cons (.cap 0) .nil)) .nil)) .nil))))
    (.seq (.ret (.and_ (.op .eq (.cons (.nm 2) (.cons (.op .lst (.cons (.op .repr (.cons (.call 12 [] (.cons (.cap 0) .nil)) .nil)) (.cons (.op .repr (.cons (.call 13 [] (.cons (.cap 0) .nil)) .nil)) .nil))) .nil))) (.op .eq (.cons (.op .repr (.cons (.nm 0) .nil)) (.cons (.nm 1) .nil)))))
    .nil)))
abbrev f_law_check : FDef := ⟨3, [false], true, b_law_check⟩
abbrev t_law_check : DefT := ⟨"_law_check", ["value", "before", "result"], ["value"], defScope (topS 23), defBody (topS 23)⟩
def b_law_fixed : MS := (.seq (.asg (.sl 0) (.op .lst (.cons (.kst .non) (.cons (.kst (.bl true)) (.cons (.kst (.int 0)) (.cons (.kst (.int 5)) (.cons (.kst (.str "")) (.cons (.kst (.str "concept")) (.cons (.op .tup .nil) (.cons (.op .lst .nil) (.cons (.kst (.dct [])) (.cons (.op .tup (.cons (.kst (.str "concept")) .nil)) (.cons (.op .tup (.cons (.kst (.str "concept")) (.cons (.kst (.str "a")) (.cons (.kst (.str "b")) .nil)))) (.cons (.op .lst (.cons (.kst (.str "concept")) (.cons (.kst (.str "a")) .nil))) (.cons (.op .tup (.cons (.kst (.str "concept")) (.cons (.kst (.str "A")) .nil))) .nil)))))))))))))))
    (.seq (.asg (.sl 0) (.op .add (.cons (.nm 0) (.cons (.op .lst (.cons (.op .tup (.cons (.kst (.str "concept")) (.cons (.kst (.str "")) .nil))) (.cons (.op .tup (.cons (.kst (.str "concept")) (.cons (.kst (.str "abcdefgh")) .nil))) (.cons (.op .tup (.cons (.kst (.str "concept")) (.cons (.kst (.str "abcdefghi")) .nil))) (.cons (.op .tup (.cons (.kst (.str "out")) (.cons (.kst (.int 5)) .nil))) (.cons (.op .tup (.cons (.kst (.str "in")) (.cons (.kst (.str "r1")) .nil))) (.cons (.op .tup (.cons (.kst (.str "Has")) (.cons (.kst (.str "r")) .nil))) .nil))))))) .nil))))
    (.seq (.asg (.sl 0) (.op .add (.cons (.nm 0) (.cons (.op .lst (.cons (.op .tup (.cons (.kst (.str "kinds")) (.cons (.kst (.str "a")) .nil))) (.cons (.op .tup (.cons (.kst (.int 5)) (.cons (.kst (.str "a")) .nil))) (.cons (.op .tup (.cons (.op .lst (.cons (.kst (.str "out")) .nil)) (.cons (.kst (.str "r")) .nil))) (.cons (.op .tup (.cons (.kst (.dct [])) (.cons (.kst (.str "r")) .nil))) (.cons (.op .tup (.cons (.kst (.str "out")) (.cons (.kst (.str "r ")) .nil))) (.cons (.op .tup (.cons (.kst (.str "in")) (.cons (.kst (.str " r")) .nil))) (.cons (.op .tup (.cons (.kst (.str "out")) (.cons (.kst (.str "r\n")) .nil))) .nil)))))))) .nil))))
    (.seq (.asg (.sl 0) (.op .add (.cons (.nm 0) (.cons (.op .lst (.cons (.op .tup (.cons (.kst (.str "out")) (.cons (.op .lst (.cons (.kst (.str "r")) .nil)) .nil))) (.cons (.op .tup (.cons (.op .tup (.cons (.kst (.str "out")) (.cons (.kst (.str "r")) .nil))) .nil)) (.cons (.op .tup (.cons (.kst (.bl true)) (.cons (.kst (.str "a")) .nil))) (.cons (.op .tup (.cons (.kst (.str "functional")) .nil)) (.cons (.op .tup (.cons (.kst (.str "functional")) (.cons (.kst (.str "r")) .nil))) (.cons (.op .tup (.cons (.kst (.str "functional")) (.cons (.op .tup (.cons (.kst (.str "concept")) (.cons (.kst (.str "a")) .nil))) .nil))) .nil))))))) .nil))))
    (.seq (.asg (.sl 0) (.op .add (.cons (.nm 0) (.cons (.op .lst (.cons (.op .tup (.cons (.kst (.str "subclass")) (.cons (.kst (.str "a")) (.cons (.kst (.str "b")) .nil)))) (.cons (.op .tup (.cons (.kst (.str "subrole")) (.cons (.op .tup (.cons (.kst (.str "out")) (.cons (.kst (.str "r")) .nil))) (.cons (.op .tup (.cons (.kst (.str "out")) (.cons (.kst (.str "s")) .nil))) .nil)))) (.cons (.op .tup (.cons (.kst (.str "disjoint_roles")) (.cons (.kst (.str "r")) .nil))) .nil)))) .nil))))
    (.seq (.expr (.mop .append 0 (.cons (.op .tup (.cons (.kst (.str "disjoint_inverse")) (.cons (.kst (.str "r")) (.cons (.kst (.str "r")) (.cons (.kst (.str "r")) .nil))))) .nil)))
    (.seq (.ret (.op .add (.cons (.nm 0) (.cons (.op .lst (.cons (.op .tup (.cons (.kst (.str "functional")) (.cons (.op .tup (.cons (.kst (.str "out")) (.cons (.kst (.str "r")) .nil))) (.cons (.op .tup (.cons (.kst (.str "out")) (.cons (.kst (.str "r")) .nil))) .nil)))) (.cons (.op .tup (.cons (.kst (.str "subclass")) (.cons (.op .tup (.cons (.kst (.str "concept")) (.cons (.kst (.str "a")) .nil))) .nil))) .nil))) .nil))))
    .nil)))))))
abbrev f_law_fixed : FDef := ⟨1, [], true, b_law_fixed⟩
abbrev t_law_fixed : DefT := ⟨"_law_fixed", ["items"], [], defScope (topS 24), defBody (topS 24)⟩
def b_law_mutated : MS := (.seq (.asg (.sl 2) (.op .lst (.cons (.kst .non) (.cons (.kst (.bl true)) (.cons (.kst (.int 1)) (.cons (.kst (.str "")) (.cons (.kst (.str "a b")) (.cons (.kst (.str "A")) (.cons (.kst (.str "abcdefghi")) (.cons (.op .tup .nil) (.cons (.op .lst .nil) (.cons (.kst (.dct [])) (.cons (.op .lst (.cons (.kst (.str "out")) (.cons (.kst (.str "r")) .nil))) (.cons (.op .tup (.cons (.kst (.str "concept")) .nil)) (.cons (.op .tup (.cons (.kst (.str "out")) (.cons (.kst (.int 1)) .nil))) (.cons (.op .tup (.cons (.kst (.str "in")) (.cons (.kst (.str "")) .nil))) .nil))))))))))))))))
    (.seq (.asg (.sl 2) (.op .add (.cons (.nm 2) (.cons (.op .lst (.cons (.kst (.str "subclass")) (.cons (.kst (.str "functional")) (.cons (.kst (.str "out")) (.cons (.op .tup (.cons (.kst (.str "out")) (.cons (.kst (.str "r")) .nil))) (.cons (.op .tup (.cons (.kst (.str "concept")) (.cons (.kst (.str "a")) .nil))) (.cons (.op .tup (.cons (.kst (.str "concept")) (.cons (.op .tup (.cons (.kst (.str "concept")) (.cons (.kst (.str "a")) .nil))) .nil))) .nil))))))) .nil))))
    (.seq (.asg (.sl 3) (.call 6 [0] (.cons (.nm 0) (.cons (.op .len (.cons (.nm 1) .nil)) .nil))))
    (.seq (.asg (.sl 4) (.call 6 [0] (.cons (.nm 0) (.cons (.kst (.int 6)) .nil))))
    (.seq (.ife (.op .eq (.cons (.nm 4) (.cons (.kst (.int 0)) .nil))) (.seq (.ret (.op .toList (.cons (.nm 1) .nil)))
    .nil) .nil)
    (.seq (.ife (.op .eq (.cons (.nm 4) (.cons (.kst (.int 1)) .nil))) (.seq (.ret (.op .add (.cons (.op (.sl false true) (.cons (.nm 1) (.cons (.nm 3) .nil))) (.cons (.op (.sl true false) (.cons (.nm 1) (.cons (.op .add (.cons (.nm 3) (.cons (.kst (.int 1)) .nil))) .nil))) .nil))))
    .nil) .nil)
    (.seq (.ife (.op .eq (.cons (.nm 4) (.cons (.kst (.int 2)) .nil))) (.seq (.ret (.op .add (.cons (.nm 1) (.cons (.op .tup (.cons (.call 7 [0] (.cons (.nm 0) (.cons (.cap 2) .nil))) .nil)) .nil))))
    .nil) .nil)
    (.seq (.ret (.op .add (.cons (.op .add (.cons (.op (.sl false true) (.cons (.nm 1) (.cons (.nm 3) .nil))) (.cons (.op .tup (.cons (.call 7 [0] (.cons (.nm 0) (.cons (.cap 2) .nil))) .nil)) .nil))) (.cons (.op (.sl true false) (.cons (.nm 1) (.cons (.op .add (.cons (.nm 3) (.cons (.kst (.int 1)) .nil))) .nil))) .nil))))
    .nil))))))))
abbrev f_law_mutated : FDef := ⟨5, [true, false], true, b_law_mutated⟩
abbrev t_law_mutated : DefT := ⟨"_law_mutated", ["stream", "value", "odd", "position", "choice"], ["stream", "value"], defScope (topS 25), defBody (topS 25)⟩
def b_law : MS := (.seq (.ife (.op .ne (.cons (.comp [6] (.sl 6) (.call 15 [] .nil) (.op .not_ (.cons (.call 14 [] (.cons (.cap 6) .nil)) .nil)) (.cap 6)) (.cons (.op .lst .nil) .nil))) (.seq (.ret (.kst (.bl false)))
    .nil) .nil)
    (.seq (.asg (.sl 1) (.op .lst (.cons (.kst (.str "subclass")) (.cons (.kst (.str "disjoint")) (.cons (.kst (.str "subrole")) (.cons (.kst (.str "subrole_inverse")) (.cons (.kst (.str "disjoint_roles")) (.cons (.kst (.str "disjoint_inverse")) (.cons (.kst (.str "functional")) .nil)))))))))
    (.seq (.for_ (.sl 2) (.op .range1 (.cons (.op .max2 (.cons (.kst (.int 1)) (.cons (.op .min2 (.cons (.kst (.int 12)) (.cons (.op .len (.cons (.nm 0) .nil)) .nil))) .nil))) .nil)) (.seq (.asg (.sl 3) (.call 5 [] (.cons (.cap 0) (.cons (.cap 2) .nil))))
    (.seq (.asg (.sl 4) (.call 8 [3] (.cons (.nm 3) .nil)))
    (.seq (.for_ (.sl 5) (.op .range1 (.cons (.kst (.int 6)) .nil)) (.seq (.for_ (.sl 6) (.op .lst (.cons (.call 9 [3] (.cons (.nm 3) (.cons (.cap 4) .nil))) (.cons (.call 10 [3] (.cons (.nm 3) (.cons (.cap 4) (.cons (.cap 1) .nil)))) .nil))) (.seq (.ife (.or_ (.op .not_ (.cons (.call 14 [] (.cons (.cap 6) .nil)) .nil)) (.op .not_ (.cons (.call 14 [] (.cons (.call 16 [3] (.cons (.nm 3) (.cons (.cap 6) .nil))) .nil)) .nil))) (.seq (.ret (.kst (.bl false)))
    .nil) .nil)
    (.seq (.asg (.sl 7) (.call 16 [3] (.cons (.nm 3) (.cons (.op .tup (.cons (.kst (.str "out")) (.cons (.op .ix (.cons (.op .ix (.cons (.nm 4) (.cons (.kst (.int 1)) .nil))) (.cons (.kst (.int 0)) .nil))) .nil))) .nil))))
    (.seq (.ife (.and_ (.op .isin (.cons (.op .ix (.cons (.nm 6) (.cons (.kst (.int 0)) .nil))) (.cons (.nm 1) .nil))) (.op .not_ (.cons (.call 14 [] (.cons (.op .add (.cons (.op (.sl false true) (.cons (.nm 6) (.cons (.op .neg (.cons (.kst (.int 1)) .nil)) .nil))) (.cons (.op .tup (.cons (.cap 7) .nil)) .nil))) .nil)) .nil))) (.seq (.ret (.kst (.bl false)))
    .nil) .nil)
    .nil))))
    .nil))
    .nil))))
    (.seq (.ret (.kst (.bl true)))
    .nil))))
abbrev f_law : FDef := ⟨8, [false], true, b_law⟩
abbrev t_law : DefT := ⟨"law", ["script", "menu", "k", "stream", "names", "turn", "value", "last"], ["script"], defScope (topS 26), defBody (topS 26)⟩
def gtab : List (Str × D) := [("MAX_LENGTH", (.int 8)), ("LETTERS", (.str "abcdefghijklmnopqrstuvwxyz")), ("DIRECTION_WORDS", (.tup [(.str "out"), (.str "in")])), ("ROLE_AXIOMS", (.tup [(.str "subrole"), (.str "subrole_inverse"), (.str "disjoint_roles"), (.str "disjoint_inverse")])), ("CONCEPT_AXIOMS", (.tup [(.str "subclass"), (.str "disjoint")]))]
def fdefs : List FDef := [f_is_string_of, f_is_word, f_is_direction, f_is_concept, f_is_axiom, f_law_stream, f_law_draw, f_law_choose, f_law_names, f_law_concept, f_law_axiom, f_law_is_word, f_law_concept_ok, f_law_axiom_ok, f_law_check, f_law_fixed, f_law_mutated, f_law]
def P : Prog := ⟨gtab, fdefs⟩
def tdefs : List DefT := [t_is_string_of, t_is_word, t_is_direction, t_is_concept, t_is_axiom, t_law_stream, t_law_draw, t_law_choose, t_law_names, t_law_concept, t_law_axiom, t_law_is_word, t_law_concept_ok, t_law_axiom_ok, t_law_check, t_law_fixed, t_law_mutated, t_law]
def FN : List Str := ["is_string_of", "is_word", "is_direction", "is_concept", "is_axiom", "_law_stream", "_law_draw", "_law_choose", "_law_names", "_law_concept", "_law_axiom", "_law_is_word", "_law_concept_ok", "_law_axiom_ok", "_law_check", "_law_fixed", "_law_mutated", "law"]
set_option maxHeartbeats 4000000
local macro_rules
  | `(tactic| ac_rfl) => `(tactic| first
    | exact e_kst | exact e_nil | exact s_nil | exact c_nil | exact ⟨rfl, rfl⟩
    | refine' e_glb rfl | refine' e_nm rfl | refine' e_cap rfl
    | refine' e_cons ?_ ?_ | refine' e_op ?_ ?_ ?_ | refine' e_chain ?_ ?_ ?_ ?_ | refine' e_and ?_ ?_ ?_ | refine' e_or ?_ ?_ ?_ | refine' e_ite ?_ ?_ ?_
    | refine' e_call ?_ ?_ ?_ ?_ | refine' e_mop rfl ?_ ?_ ?_ ?_ | refine' t_of ?_ ?_ | refine' q_nil ?_ | refine' q_seq ?_ | refine' q_asg ?_ ?_ ?_ | refine' q_expr ?_ ?_ | refine' q_ret ?_ ?_ rfl | refine' q_retN ?_ | refine' q_if ?_ ?_
    | refine' e_comp ?_ ?_ ?_ ?_ | refine' q_seti rfl ?_ ?_ ?_ ?_ ?_
    | refine' cp_tb (by assumption) ?_ | refine' cp_fb (by assumption) ?_ | refine' cp_t ?_ | refine' cp_f ?_ | refine' cp_not ?_
    | refine' ⟨_, _, _, _, ?_, ?_, ?_, ?_⟩
    | (show (_ : Prop); assumption) | rfl)
/-! ### good data -/
def gd : Nat → D → Bool
  | _, .non => true
  | _, .bl _ => true
  | _, .int i => decide ((PyData.int i).shown.length ≤ 1002) && decide (i.natAbs.log2 < 1920)
  | _, .str s => decide (s.length ≤ 100) && s.cps.toList.all fun c => decide (c < 4294967296)
  | _, .dct kvs => kvs.isEmpty
  | n + 1, .tup xs => decide (xs.length ≤ 8) && xs.all (gd n)
  | n + 1, .lst xs => decide (xs.length ≤ 8) && xs.all (gd n)
  | 0, .tup _ => false
  | 0, .lst _ => false
theorem gd_str {n : Nat} {s : Str} (h : gd n (.str s) = true) : s.length ≤ 100 := by
  cases n <;> (simp only [gd, Bool.and_eq_true, decide_eq_true_eq] at h; exact h.1)
theorem gd_tup {n : Nat} {xs : List D} (h : gd n (.tup xs) = true) : ∃ m, n = m + 1 ∧ xs.length ≤ 8 ∧ ∀ x ∈ xs, gd m x = true := by
  cases n with
  | zero => cases h
  | succ m =>
    simp only [gd, Bool.and_eq_true, decide_eq_true_eq, List.all_eq_true] at h
    exact ⟨m, rfl, h.1, h.2⟩
theorem len_str {n : Nat} {s : Str} (h : gd n (.str s) = true) : ap .len [.str s] = some (.int s.length) := by
  show (if s.length ≤ line then some (D.int s.length) else none) = _
  rw [if_pos (Nat.le_trans (gd_str h) (by decide))]
abbrev LT : Str := "abcdefghijklmnopqrstuvwxyz"
def isLet (c : Nat) : Bool := decide (c ∈ LT.cps.toList)
def wordB : D → Bool
  | .str s => decide ((1 : Int) ≤ s.length) && (decide ((s.length : Int) ≤ 8) && s.cps.toList.all isLet)
  | _ => false
def letV : D → D
  | .str z => (match z.cps.toList with
    | [c] => .bl (isLet c)
    | _ => .non)
  | _ => .non
theorem bools_map (f : Nat → Bool) : ∀ l : List Nat, D.bools (l.map fun c => .bl (f c)) = some (l.map f)
  | [] => rfl
  | c :: l => by
    show (D.bools (l.map fun c => .bl (f c))).map (f c :: ·) = _
    rw [bools_map f l]
    rfl
theorem k_word0 (k n : Nat) (v : D) (hg : gd n v = true) : Kv (callN shownD P (k + 1)) 0 [v, .str LT] (.bl (wordB v)) [] := by
  cases v <;> try (exact ⟨rfl⟩)
  rename_i s
  have h := len_str hg
  by_cases h3 : (1 : Int) ≤ s.length
  · have h3' : decide ((1 : Int) ≤ s.length) = true := decide_eq_true h3
    by_cases h4 : (s.length : Int) ≤ 8
    · have h4' : decide ((s.length : Int) ≤ 8) = true := decide_eq_true h4
      obtain ⟨r', hc, x, rfl⟩ := c_map (P := P) (cf := callN shownD P k) (own := [2]) (tg := .sl 2) (cc := .kst (.bl true)) (e := .op .isin (.cons (.nm 2) (.cons (.nm 1) .nil))) (xs := s.cps.toList.map chr1) (fun _ => true)
        letV (fun r => ∃ x, r = [.fz (.str s), .fz (.str LT), x]) (by
            rintro r x ⟨y, rfl⟩ hx
            obtain ⟨c, _, rfl⟩ := List.mem_map.mp hx
            exact ⟨_, _, _, rfl, e_kst, rfl, fun _ => ⟨_, e_op (e_cons (e_nm rfl) (e_cons (e_nm rfl) e_nil)) rfl rfl, _, rfl⟩, fun z => (by cases z)⟩) [] [.fz (.str s), .fz (.str LT), .un] ⟨_, rfl⟩ (by
            have := gd_str hg
            simp only [List.length_nil, List.length_map, Array.length_toList, Nat.zero_add]
            exact Nat.le_trans (show s.cps.size ≤ 100 from this) (by decide))
      have hb : ap .all [.lst ([] ++ ((s.cps.toList.map chr1).filter fun _ => true).map letV)] = some (.bl (wordB (.str s))) := by
        have e : wordB (.str s) = s.cps.toList.all isLet := by
          show (decide ((1 : Int) ≤ s.length) && (decide ((s.length : Int) ≤ 8) && _)) = _
          rw [h3', h4']
          rfl
        have e2 : ((s.cps.toList.map chr1).filter fun _ => true).map letV = s.cps.toList.map fun c => .bl (isLet c) := by
          rw [List.filter_eq_self.mpr (fun _ _ => rfl), List.map_map]
          rfl
        rw [e, List.nil_append, e2]
        show (D.bools (s.cps.toList.map fun c => .bl (isLet c))).map (fun bs => D.bl (bs.all id)) = _
        rw [bools_map]
        show some (D.bl ((s.cps.toList.map isLet).all id)) = _
        rw [List.all_map]
        rfl
      refine' call_ok (fd := f_is_string_of) rfl rfl (q_start ?_) ?_
      repeat' first | ac_rfl
    · have h4' : decide ((s.length : Int) ≤ 8) = false := decide_eq_false h4
      have e : wordB (.str s) = false := by
        show (decide ((1 : Int) ≤ s.length) && (decide ((s.length : Int) ≤ 8) && _)) = _
        rw [h3', h4']
        rfl
      rw [e]
      refine' call_ok (fd := f_is_string_of) rfl rfl (q_start ?_) ?_
      repeat' first | ac_rfl
  · have h3' : decide ((1 : Int) ≤ s.length) = false := decide_eq_false h3
    have e : wordB (.str s) = false := by
      show (decide ((1 : Int) ≤ s.length) && _) = _
      rw [h3']
      rfl
    rw [e]
    refine' call_ok (fd := f_is_string_of) rfl rfl (q_start ?_) ?_
    repeat' first | ac_rfl
theorem k_word (k n : Nat) (v : D) (hg : gd n v = true) : Kv (callN shownD P (k + 2)) 1 [v] (.bl (wordB v)) [] := by
  have h := k_word0 k n v hg
  refine' call_ok (fd := f_is_word) rfl rfl (q_start ?_) ?_
  repeat' first | ac_rfl
/-! ### words, by the law's own way -/
def letD : D → Bool
  | .str z => (match z.cps.toList with
    | [c] => isLet c
    | _ => false)
  | _ => false
theorem flats_chr : ∀ l : List Nat, D.flat.flats (l.map chr1) = true
  | [] => rfl
  | c :: l => by
    show (true && D.flat.flats (l.map chr1)) = true
    rw [flats_chr l]
    rfl
theorem deps_chr : ∀ l : List Nat, D.dep.deps (l.map chr1) = 0
  | [] => rfl
  | c :: l => by
    show max 0 (D.dep.deps (l.map chr1)) = 0
    rw [deps_chr l]
    rfl
theorem eq_nil_chr (l : List Nat) : ap .eq [.lst (l.map chr1), .lst []] = some (.bl l.isEmpty) := by
  have h1 : (D.lst (l.map chr1)).cmp = true := by
    show (D.flat.flats (l.map chr1) && decide (D.dep.deps (l.map chr1) + 1 ≤ 60)) = true
    rw [flats_chr, deps_chr]
    rfl
  show (if (D.lst (l.map chr1)).cmp && (D.lst []).cmp then some (D.bl (D.eq (.lst (l.map chr1)) (.lst []))) else none) = _
  rw [h1]
  cases l <;> rfl
theorem filter_let (l : List Nat) : (l.filter fun c => !isLet c).isEmpty = l.all isLet := by
  induction l with
  | nil => rfl
  | cons c l ih =>
    cases h : isLet c with
    | true =>
      rw [List.filter_cons_of_neg (by rw [h]; decide), ih]
      simp [h]
    | false =>
      rw [List.filter_cons_of_pos (by rw [h]; rfl)]
      simp [h]
theorem k_lword (k n : Nat) (v : D) (hg : gd n v = true) : Kv (callN shownD P (k + 1)) 11 [v] (.bl (wordB v)) [] := by
  cases v <;> try (exact ⟨rfl⟩)
  rename_i s
  have h := len_str hg
  by_cases h3 : (1 : Int) ≤ s.length
  · have h3' : decide ((1 : Int) ≤ s.length) = true := decide_eq_true h3
    by_cases h4 : (s.length : Int) ≤ 8
    · have h4' : decide ((s.length : Int) ≤ 8) = true := decide_eq_true h4
      obtain ⟨r', hc, x, rfl⟩ := c_map (P := P) (cf := callN shownD P k) (own := [1]) (tg := .sl 1) (cc := .op .notin (.cons (.nm 1) (.cons (.kst (.str "abcdefghijklmnopqrstuvwxyz")) .nil))) (e := .cap 1) (xs := s.cps.toList.map chr1) (fun d => !letD d) id
        (fun r => ∃ x, r = [.fz (.str s), x]) (by
            rintro r x ⟨y, rfl⟩ hx
            obtain ⟨c, _, rfl⟩ := List.mem_map.mp hx
            exact ⟨_, _, _, rfl, e_op (e_cons (e_nm rfl) (e_cons e_kst e_nil)) rfl rfl, rfl, fun _ => ⟨_, e_cap rfl, _, rfl⟩, fun _ => ⟨_, rfl⟩⟩) [] [.fz (.str s), .un] ⟨_, rfl⟩ (by
            have := gd_str hg
            simp only [List.length_nil, List.length_map, Array.length_toList, Nat.zero_add]
            exact Nat.le_trans (show s.cps.size ≤ 100 from this) (by decide))
      have hb : ap .eq [.lst ([] ++ ((s.cps.toList.map chr1).filter fun d => !letD d).map id), .lst []] = some (.bl (wordB (.str s))) := by
        have e : wordB (.str s) = s.cps.toList.all isLet := by
          show (decide ((1 : Int) ≤ s.length) && (decide ((s.length : Int) ≤ 8) && _)) = _
          rw [h3', h4']
          rfl
        have e2 : ((s.cps.toList.map chr1).filter fun d => !letD d).map id = (s.cps.toList.filter fun c => !isLet c).map chr1 := by
          rw [List.map_id, List.filter_map]
          rfl
        rw [e, List.nil_append, e2, eq_nil_chr, filter_let]
      refine' call_ok (fd := f_law_is_word) rfl rfl (q_start ?_) ?_
      repeat' first | ac_rfl
    · have h4' : decide ((s.length : Int) ≤ 8) = false := decide_eq_false h4
      have e : wordB (.str s) = false := by
        show (decide ((1 : Int) ≤ s.length) && (decide ((s.length : Int) ≤ 8) && _)) = _
        rw [h3', h4']
        rfl
      rw [e]
      refine' call_ok (fd := f_law_is_word) rfl rfl (q_start ?_) ?_
      repeat' first | ac_rfl
  · have h3' : decide ((1 : Int) ≤ s.length) = false := decide_eq_false h3
    have e : wordB (.str s) = false := by
      show (decide ((1 : Int) ≤ s.length) && _) = _
      rw [h3']
      rfl
    rw [e]
    refine' call_ok (fd := f_law_is_word) rfl rfl (q_start ?_) ?_
    repeat' first | ac_rfl
/-! ### directions, concepts -/
def dirB : D → Bool
  | .tup [.str s, b] => inD (.str s) [.str "out", .str "in"] && wordB b
  | _ => false
def conB : D → Bool
  | .tup [.str s, b] => inD (.str s) [.str "concept", .str "out", .str "in"] && wordB b
  | _ => false
theorem len3 (a b c : D) (l : List D) : D.eq (.int ((a :: b :: c :: l).length : Nat)) (.int 2) = false := by
  show (((a :: b :: c :: l).length : Int) == 2) = false
  simp only [List.length_cons]
  rw [beq_eq_false_iff_ne]
  omega
theorem k_dir (k n : Nat) (v : D) (hg : gd n v = true) : Kv (callN shownD P (k + 3)) 2 [v] (.bl (dirB v)) [] := by
  cases v <;> try (exact ⟨rfl⟩)
  rename_i xs
  obtain ⟨m, rfl, -, hm⟩ := gd_tup hg
  match xs, hm with
  | [], _ => exact ⟨rfl⟩
  | [a], _ =>
    have e : dirB (.tup [a]) = false := by cases a <;> rfl
    rw [e]
    exact ⟨rfl⟩
  | a :: b :: c :: l, _ =>
    have h := len3 a b c l
    have e : dirB (.tup (a :: b :: c :: l)) = false := by cases a <;> rfl
    rw [e]
    refine' call_ok (fd := f_is_direction) rfl rfl (q_start ?_) ?_
    repeat' first | ac_rfl
  | [a, b], hm =>
    cases a <;> try (exact ⟨rfl⟩)
    rename_i s
    have hw := k_word k m b (hm b (by simp))
    cases hi : inD (.str s) [.str "out", .str "in"] with
    | false =>
      have e : dirB (.tup [.str s, b]) = inD (.str s) [.str "out", .str "in"] := by
        show (inD (.str s) [.str "out", .str "in"] && _) = _
        rw [hi]
        rfl
      rw [e]
      refine' call_ok (fd := f_is_direction) rfl rfl (q_start ?_) ?_
      repeat' first | ac_rfl
    | true =>
      have e : dirB (.tup [.str s, b]) = wordB b := by
        show (inD (.str s) [.str "out", .str "in"] && _) = _
        rw [hi]
        rfl
      rw [e]
      refine' call_ok (fd := f_is_direction) rfl rfl (q_start ?_) ?_
      repeat' first | ac_rfl
theorem str_in (s z : Str) (l : List D) : inD (.str s) (.str z :: l) = (D.eq (.str z) (.str s) || inD (.str s) l) := rfl
theorem eq_comm_str (s z : Str) : D.eq (.str s) (.str z) = D.eq (.str z) (.str s) := by
  show (s == z) = (z == s)
  by_cases h : s = z
  · subst h; rfl
  · rw [beq_eq_false_iff_ne.mpr h, beq_eq_false_iff_ne.mpr (Ne.symm h)]
theorem k_con (k n : Nat) (v : D) (hg : gd n v = true) : Kv (callN shownD P (k + 4)) 3 [v] (.bl (conB v)) [] := by
  have hd := k_dir k n v hg
  cases v <;> try (exact ⟨rfl⟩)
  rename_i xs
  obtain ⟨m, rfl, -, hm⟩ := gd_tup hg
  match xs, hm, hd with
  | [], _, _ => exact ⟨rfl⟩
  | [a], _, _ =>
    have e : conB (.tup [a]) = false := by cases a <;> rfl
    rw [e]
    exact ⟨rfl⟩
  | a :: b :: c :: l, _, hd =>
    have h := len3 a b c l
    have e : conB (.tup (a :: b :: c :: l)) = false := by cases a <;> rfl
    have e2 : dirB (.tup (a :: b :: c :: l)) = false := by cases a <;> rfl
    rw [e2] at hd
    rw [e]
    refine' call_ok (fd := f_is_concept) rfl rfl (q_start ?_) ?_
    repeat' first | ac_rfl
  | [a, b], hm, hd =>
    cases a <;> try (exact ⟨rfl⟩)
    rename_i s
    have hw := k_word (k + 1) m b (hm b (by simp))
    have e : conB (.tup [.str s, b]) = ((D.eq (.str "concept") (.str s) || inD (.str s) [.str "out", .str "in"]) && wordB b) := rfl
    have e2 : dirB (.tup [.str s, b]) = (inD (.str s) [.str "out", .str "in"] && wordB b) := rfl
    cases hdb : dirB (.tup [.str s, b]) with
    | true =>
      rw [hdb] at hd
      have e3 : conB (.tup [.str s, b]) = true := by
        rw [e2, Bool.and_eq_true] at hdb
        rw [e, hdb.1, hdb.2, Bool.or_true]
        rfl
      rw [e3]
      refine' call_ok (fd := f_is_concept) rfl rfl (q_start ?_) ?_
      repeat' first | ac_rfl
    | false =>
      rw [hdb] at hd
      cases hc : D.eq (.str s) (.str "concept") with
      | true =>
        have e3 : conB (.tup [.str s, b]) = wordB b := by
          rw [e, eq_comm_str, hc]
          rfl
        rw [e3]
        refine' call_ok (fd := f_is_concept) rfl rfl (q_start ?_) ?_
        repeat' first | ac_rfl
      | false =>
        have e3 : conB (.tup [.str s, b]) = D.eq (.str s) (.str "concept") := by
          rw [e, eq_comm_str, hc, Bool.false_or, ← e2, hdb]
        rw [e3]
        refine' call_ok (fd := f_is_concept) rfl rfl (q_start ?_) ?_
        repeat' first | ac_rfl
theorem k_lcon (k n : Nat) (v : D) (hg : gd n v = true) : Kv (callN shownD P (k + 2)) 12 [v] (.bl (conB v)) [] := by
  cases v <;> try (exact ⟨rfl⟩)
  rename_i xs
  obtain ⟨m, rfl, -, hm⟩ := gd_tup hg
  match xs, hm with
  | [], _ => exact ⟨rfl⟩
  | [a], _ =>
    have e : conB (.tup [a]) = false := by cases a <;> rfl
    rw [e]
    exact ⟨rfl⟩
  | a :: b :: c :: l, _ =>
    have h := len3 a b c l
    have e : conB (.tup (a :: b :: c :: l)) = false := by cases a <;> rfl
    rw [e]
    refine' call_ok (fd := f_law_concept_ok) rfl rfl (q_start ?_) ?_
    repeat' first | ac_rfl
  | [a, b], hm =>
    cases a <;> try (exact ⟨rfl⟩)
    rename_i s
    have hw := k_lword k m b (hm b (by simp))
    cases hi : inD (.str s) [.str "concept", .str "out", .str "in"] with
    | false =>
      have e : conB (.tup [.str s, b]) = inD (.str s) [.str "concept", .str "out", .str "in"] := by
        show (inD (.str s) [.str "concept", .str "out", .str "in"] && _) = _
        rw [hi]
        rfl
      rw [e]
      refine' call_ok (fd := f_law_concept_ok) rfl rfl (q_start ?_) ?_
      repeat' first | ac_rfl
    | true =>
      have e : conB (.tup [.str s, b]) = wordB b := by
        show (inD (.str s) [.str "concept", .str "out", .str "in"] && _) = _
        rw [hi]
        rfl
      rw [e]
      refine' call_ok (fd := f_law_concept_ok) rfl rfl (q_start ?_) ?_
      repeat' first | ac_rfl
/-! ### axioms -/
def axB : D → Bool
  | .tup [.str s, b] => D.eq (.str s) (.str "functional") && dirB b
  | .tup [.str s, b, c] => if inD (.str s) [.str "subclass", .str "disjoint"] then conB b && conB c else inD (.str s) [.str "subrole", .str "subrole_inverse", .str "disjoint_roles", .str "disjoint_inverse"] && (wordB b && wordB c)
  | _ => false
theorem len4 (a b c d : D) (l : List D) : decide ((2 : Int) ≤ ((a :: b :: c :: d :: l).length : Nat)) = true ∧ decide ((((a :: b :: c :: d :: l).length : Nat) : Int) ≤ 3) = false ∧ decide ((((a :: b :: c :: d :: l).length : Nat) : Int) < 2) = false ∧
    D.eq (.int ((a :: b :: c :: d :: l).length : Nat)) (.int 2) = false ∧ D.eq (.int ((a :: b :: c :: d :: l).length : Nat)) (.int 3) = false := by
  refine ⟨decide_eq_true ?_, decide_eq_false ?_, decide_eq_false ?_, beq_eq_false_iff_ne.mpr ?_, beq_eq_false_iff_ne.mpr ?_⟩ <;> simp only [List.length_cons] <;> omega
theorem k_ax (k n : Nat) (v : D) (hg : gd n v = true) : Kv (callN shownD P (k + 5)) 4 [v] (.bl (axB v)) [] := by
  cases v <;> try (exact ⟨rfl⟩)
  rename_i xs
  obtain ⟨m, rfl, -, hm⟩ := gd_tup hg
  match xs, hm with
  | [], _ => exact ⟨rfl⟩
  | [a], _ =>
    have e : axB (.tup [a]) = false := by cases a <;> rfl
    rw [e]
    exact ⟨rfl⟩
  | a :: b :: c :: d :: l, _ =>
    obtain ⟨h1, h2, h3, h4, h5⟩ := len4 a b c d l
    have e : axB (.tup (a :: b :: c :: d :: l)) = false := by cases a <;> rfl
    rw [e]
    refine' call_ok (fd := f_is_axiom) rfl rfl (q_start ?_) ?_
    repeat' first | ac_rfl
  | [a, b], hm =>
    cases a <;> try (exact ⟨rfl⟩)
    rename_i s
    have hw := k_dir (k + 1) m b (hm b (by simp))
    cases hf : D.eq (.str s) (.str "functional") with
    | false =>
      have e : axB (.tup [.str s, b]) = D.eq (.str s) (.str "functional") := by
        show (D.eq (.str s) (.str "functional") && _) = _
        rw [hf]
        rfl
      rw [e]
      refine' call_ok (fd := f_is_axiom) rfl rfl (q_start ?_) ?_
      repeat' first | ac_rfl
    | true =>
      have e : axB (.tup [.str s, b]) = dirB b := by
        show (D.eq (.str s) (.str "functional") && _) = _
        rw [hf]
        rfl
      rw [e]
      refine' call_ok (fd := f_is_axiom) rfl rfl (q_start ?_) ?_
      repeat' first | ac_rfl
  | [a, b, c], hm =>
    cases a <;> try (exact ⟨rfl⟩)
    rename_i s
    have hb := k_con k m b (hm b (by simp))
    have hc := k_con k m c (hm c (by simp))
    have wb := k_word (k + 2) m b (hm b (by simp))
    have wc := k_word (k + 2) m c (hm c (by simp))
    have e0 : axB (.tup [.str s, b, c]) = (if inD (.str s) [.str "subclass", .str "disjoint"] then conB b && conB c else inD (.str s) [.str "subrole", .str "subrole_inverse", .str "disjoint_roles", .str "disjoint_inverse"] && (wordB b && wordB c)) := rfl
    cases hi : inD (.str s) [.str "subclass", .str "disjoint"] with
    | true =>
      rw [hi, if_pos rfl] at e0
      cases hb1 : conB b with
      | true =>
        rw [hb1, Bool.true_and] at e0
        rw [hb1] at hb
        rw [e0]
        refine' call_ok (fd := f_is_axiom) rfl rfl (q_start ?_) ?_
        repeat' first | ac_rfl
      | false =>
        rw [hb1, Bool.false_and] at e0
        rw [hb1] at hb
        rw [e0]
        refine' call_ok (fd := f_is_axiom) rfl rfl (q_start ?_) ?_
        repeat' first | ac_rfl
    | false =>
      rw [hi, if_neg Bool.false_ne_true] at e0
      cases hj : inD (.str s) [.str "subrole", .str "subrole_inverse", .str "disjoint_roles", .str "disjoint_inverse"] with
      | false =>
        rw [hj, Bool.false_and, ← hj] at e0
        rw [e0]
        refine' call_ok (fd := f_is_axiom) rfl rfl (q_start ?_) ?_
        repeat' first | ac_rfl
      | true =>
        rw [hj, Bool.true_and] at e0
        cases hb1 : wordB b with
        | true =>
          rw [hb1, Bool.true_and] at e0
          rw [hb1] at wb
          rw [e0]
          refine' call_ok (fd := f_is_axiom) rfl rfl (q_start ?_) ?_
          repeat' first | ac_rfl
        | false =>
          rw [hb1, Bool.false_and] at e0
          rw [hb1] at wb
          rw [e0]
          refine' call_ok (fd := f_is_axiom) rfl rfl (q_start ?_) ?_
          repeat' first | ac_rfl
/-- a concept, by its first word -/
theorem con_cases {b : D} (h : conB b = true) : ∃ (t : Str) (x : D), b = .tup [.str t, x] ∧ wordB x = true ∧ ((t = "concept" ∧ dirB b = false) ∨ (D.eq (.str t) (.str "concept") = false ∧ dirB b = true)) := by
  cases b <;> try (cases h; done)
  rename_i xs
  match xs, h with
  | [], h => cases h
  | [a], h => cases a <;> cases h
  | a :: b :: c :: l, h => cases a <;> cases h
  | [a, x], h =>
    cases a <;> try (cases h; done)
    rename_i t
    have h : ((D.eq (.str "concept") (.str t) || inD (.str t) [.str "out", .str "in"]) && wordB x) = true := h
    rw [Bool.and_eq_true] at h
    refine ⟨t, x, rfl, h.2, ?_⟩
    by_cases ht : t = "concept"
    · subst ht
      exact .inl ⟨rfl, rfl⟩
    · have h1 : D.eq (.str t) (.str "concept") = false := beq_eq_false_iff_ne.mpr ht
      refine .inr ⟨h1, ?_⟩
      rw [eq_comm_str, h1, Bool.false_or] at h
      show (inD (.str t) [.str "out", .str "in"] && wordB x) = true
      rw [h.1, h.2]
      rfl
theorem dir_con {b : D} (h : conB b = false) : dirB b = false := by
  cases b <;> try (rfl; done)
  rename_i xs
  match xs, h with
  | [], h => rfl
  | [a], h => cases a <;> rfl
  | a :: b :: c :: l, h => cases a <;> rfl
  | [a, x], h =>
    cases a <;> try (rfl; done)
    rename_i t
    have h : ((D.eq (.str "concept") (.str t) || inD (.str t) [.str "out", .str "in"]) && wordB x) = false := h
    show (inD (.str t) [.str "out", .str "in"] && wordB x) = false
    cases h1 : inD (.str t) [.str "out", .str "in"] with
    | false => rfl
    | true =>
      rw [h1, Bool.or_true, Bool.true_and] at h
      rw [h]
      rfl
theorem eq_str {s z : Str} (h : D.eq (.str s) (.str z) = true) : s = z := by
  have h : (s == z) = true := h
  exact beq_iff_eq.mp h
/-! ### axioms, by the law's own way -/
theorem ix_0 (a : D) (l : List D) : ap .ix [.tup (a :: l), .int 0] = some a := by
  show ixD (a :: l) 0 = _
  unfold ixD
  rw [if_pos (by decide), if_pos (by simp only [List.length_cons]; omega)]
  rfl
theorem k_lax (k n : Nat) (v : D) (hg : gd n v = true) : Kv (callN shownD P (k + 3)) 13 [v] (.bl (axB v)) [] := by
  cases v <;> try (exact ⟨rfl⟩)
  rename_i xs
  obtain ⟨m, rfl, -, hm⟩ := gd_tup hg
  match xs, hm with
  | [], _ => exact ⟨rfl⟩
  | [a], _ =>
    have e : axB (.tup [a]) = false := by cases a <;> rfl
    rw [e]
    exact ⟨rfl⟩
  | a :: b :: c :: d :: l, _ =>
    obtain ⟨h1, h2, h3, h4, h5⟩ := len4 a b c d l
    have hx := ix_0 a (b :: c :: d :: l)
    cases a with
    | str s =>
      cases hf : D.eq (.str s) (.str "functional") with
      | true =>
        have e : axB (.tup (.str s :: b :: c :: d :: l)) = D.eq (.int ((D.str s :: b :: c :: d :: l).length : Nat)) (.int 2) := by rw [h4]; rfl
        rw [e]
        refine' call_ok (fd := f_law_axiom_ok) rfl rfl (q_start ?_) ?_
        repeat' first | ac_rfl
      | false =>
        have e : axB (.tup (.str s :: b :: c :: d :: l)) = false := rfl
        rw [e]
        refine' call_ok (fd := f_law_axiom_ok) rfl rfl (q_start ?_) ?_
        repeat' first | ac_rfl
    | _ =>
      refine' call_ok (fd := f_law_axiom_ok) (d := .bl false) rfl rfl (q_start ?_) ?_
      repeat' first | ac_rfl
  | [a, b], hm =>
    cases a <;> try (exact ⟨rfl⟩)
    rename_i s
    have hw := k_lcon k m b (hm b (by simp))
    have e0 : axB (.tup [.str s, b]) = (D.eq (.str s) (.str "functional") && dirB b) := rfl
    cases hf : D.eq (.str s) (.str "functional") with
    | false =>
      rw [hf, Bool.false_and] at e0
      rw [e0]
      refine' call_ok (fd := f_law_axiom_ok) rfl rfl (q_start ?_) ?_
      repeat' first | ac_rfl
    | true =>
      rw [hf, Bool.true_and] at e0
      cases hc : conB b with
      | false =>
        rw [dir_con hc] at e0
        rw [e0]
        rw [hc] at hw
        refine' call_ok (fd := f_law_axiom_ok) rfl rfl (q_start ?_) ?_
        repeat' first | ac_rfl
      | true =>
        rw [hc] at hw
        obtain ⟨t, x, rfl, hx, ht | ht⟩ := con_cases hc
        · obtain ⟨rfl, hd⟩ := ht
          rw [hd] at e0
          rw [e0]
          refine' call_ok (fd := f_law_axiom_ok) rfl rfl (q_start ?_) ?_
          repeat' first | ac_rfl
        · obtain ⟨ht, hd⟩ := ht
          have e1 : axB (.tup [.str s, .tup [.str t, x]]) = !D.eq (.str t) (.str "concept") := by rw [e0, hd, ht]; rfl
          rw [e1]
          refine' call_ok (fd := f_law_axiom_ok) rfl rfl (q_start ?_) ?_
          repeat' first | ac_rfl
  | [a, b, c], hm =>
    cases a <;> try (exact ⟨rfl⟩)
    rename_i s
    have hb := k_lcon k m b (hm b (by simp))
    have hc := k_lcon k m c (hm c (by simp))
    have wb := k_lword (k + 1) m b (hm b (by simp))
    have wc := k_lword (k + 1) m c (hm c (by simp))
    have e0 : axB (.tup [.str s, b, c]) = (if inD (.str s) [.str "subclass", .str "disjoint"] then conB b && conB c else inD (.str s) [.str "subrole", .str "subrole_inverse", .str "disjoint_roles", .str "disjoint_inverse"] && (wordB b && wordB c)) := rfl
    cases hf : D.eq (.str s) (.str "functional") with
    | true =>
      obtain rfl := eq_str hf
      exact ⟨rfl⟩
    | false =>
      cases hi : inD (.str s) [.str "subclass", .str "disjoint"] with
      | true =>
        rw [hi, if_pos rfl] at e0
        cases hb1 : conB b with
        | true =>
          rw [hb1, Bool.true_and] at e0
          rw [hb1] at hb
          rw [e0]
          refine' call_ok (fd := f_law_axiom_ok) rfl rfl (q_start ?_) ?_
          repeat' first | ac_rfl
        | false =>
          rw [hb1, Bool.false_and] at e0
          rw [hb1] at hb
          rw [e0]
          refine' call_ok (fd := f_law_axiom_ok) rfl rfl (q_start ?_) ?_
          repeat' first | ac_rfl
      | false =>
        rw [hi, if_neg Bool.false_ne_true] at e0
        cases hj : inD (.str s) [.str "subrole", .str "subrole_inverse", .str "disjoint_roles", .str "disjoint_inverse"] with
        | false =>
          rw [hj, Bool.false_and] at e0
          rw [e0]
          refine' call_ok (fd := f_law_axiom_ok) rfl rfl (q_start ?_) ?_
          repeat' first | ac_rfl
        | true =>
          rw [hj, Bool.true_and] at e0
          cases hb1 : wordB b with
          | true =>
            rw [hb1, Bool.true_and] at e0
            rw [hb1] at wb
            rw [e0]
            refine' call_ok (fd := f_law_axiom_ok) rfl rfl (q_start ?_) ?_
            repeat' first | ac_rfl
          | false =>
            rw [hb1, Bool.false_and] at e0
            rw [hb1] at wb
            rw [e0]
            refine' call_ok (fd := f_law_axiom_ok) rfl rfl (q_start ?_) ?_
            repeat' first | ac_rfl
/-! ### the stream -/
theorem q_seqs {P : Prog} {cf : Nat → List D → VL.CR} {rf : Bool} {s : MS} {r r2 : Env} {d : D} (h : Sv P cf rf s r (.ret d) r2) : Sv P cf rf (.seq s .nil) r (.ret d) r2 := s_seqR h
abbrev SM : Int := 2147483647
abbrev stD (a b : Int) : D := .lst [.int a, .int b]
def StOk (a b : Int) : Prop := 0 ≤ a ∧ 0 ≤ b ∧ b < SM
theorem ap_mod (i j : Int) (h : j ≠ 0) : ap .mod [.int i, .int j] = some (.int (i.fmod j)) := by
  show (if j = 0 then none else some (D.int (i.fmod j))) = _
  rw [if_neg h]
theorem ap_div (i j : Int) (h : j ≠ 0) (h2 : j.natAbs < 1073741824) : ap .fdiv [.int i, .int j] = some (.int (i.fdiv j)) := by
  show (if (j != 0 && decide (j.natAbs < 1073741824)) then some (D.int (i.fdiv j)) else none) = _
  rw [if_pos]
  rw [Bool.and_eq_true]
  exact ⟨bne_iff_ne.mpr h, decide_eq_true h2⟩
theorem ap_mul (i j : Int) (h1 : -(2 ^ 64) < i) (h2 : i < 2 ^ 64) : ap .mul [.int i, .int j] = some (.int (i * j)) := by
  show (if mulOk i j then some (D.int (i * j)) else none) = _
  rw [if_pos]
  unfold mulOk
  rw [decide_eq_true h1, decide_eq_true h2]
  rfl
theorem k_draw (k : Nat) (a b n : Int) (h : StOk a b) (h1 : 1 ≤ n) (h2 : n ≤ 1000) : ∃ i a' b', Kv (callN shownD P (k + 1)) 6 [stD a b, .int n] (.int i) [stD a' b'] ∧ 0 ≤ i ∧ i < n ∧ StOk a' b' := by
  obtain ⟨ha, hb, hb2⟩ := h
  have hn : n ≠ 0 := by omega
  by_cases hp : 0 < a
  · have hp' : decide (0 < a) = true := decide_eq_true hp
    have e1 := ap_mod a n hn
    have e2 := ap_div a n hn (by omega)
    refine ⟨a.fmod n, a.fdiv n, b, ?_, Int.fmod_nonneg_of_pos a (by omega), Int.fmod_lt_of_pos a (by omega), Int.fdiv_nonneg ha (by omega), hb, hb2⟩
    refine' call_ok (fd := f_law_draw) rfl rfl (q_start ?_) ?_
    repeat' first | ac_rfl
  · have hp' : decide (0 < a) = false := decide_eq_false hp
    have e1 := ap_mul b 69621 (by omega) (by have : SM = 2147483647 := rfl; omega)
    have hb' : 0 ≤ (b * 69621 + 7).fmod SM ∧ (b * 69621 + 7).fmod SM < SM := ⟨Int.fmod_nonneg_of_pos _ (by decide), Int.fmod_lt_of_pos _ (by decide)⟩
    have e0 : ap .mod [.int (b * 69621 + 7), .int 2147483647] = some (.int ((b * 69621 + 7).fmod SM)) := ap_mod _ _ (by decide)
    generalize (b * 69621 + 7).fmod SM = c at hb' e0
    have e2 := ap_mul c c (by omega) (by have : SM = 2147483647 := rfl; omega)
    have e3 := ap_mod (c * c) 2147483629 (by decide)
    have e4 := ap_div ((c * c).fmod 2147483629) 32 (by decide) (by decide)
    have e5 := ap_mod (((c * c).fmod 2147483629).fdiv 32) n hn
    refine ⟨(((c * c).fmod 2147483629).fdiv 32).fmod n, a, c, ?_, Int.fmod_nonneg_of_pos _ (by omega), Int.fmod_lt_of_pos _ (by omega), ha, hb'⟩
    refine' call_ok (fd := f_law_draw) rfl rfl (q_start ?_) ?_
    repeat' first | ac_rfl
theorem ix_at {xs : List D} {i : Int} {d : D} (h0 : 0 ≤ i) (h : xs[i.toNat]? = some d) : ap .ix [.lst xs, .int i] = some d := by
  have hl := (List.getElem?_eq_some_iff.mp h).1
  show ixD xs i = _
  unfold ixD
  rw [if_pos h0, if_pos (by omega)]
  exact h
theorem k_choose (k : Nat) (a b : Int) (xs : List D) (h : StOk a b) (h1 : xs ≠ []) (h2 : xs.length ≤ 1000) : ∃ d a' b', Kv (callN shownD P (k + 2)) 7 [stD a b, .lst xs] d [stD a' b'] ∧ d ∈ xs ∧ StOk a' b' := by
  have hl : 0 < xs.length := List.length_pos_iff.mpr h1
  obtain ⟨i, a', b', hd, i0, i1, hs⟩ := k_draw k a b xs.length h (by omega) (by omega)
  have hx : xs[i.toNat]? = some xs[i.toNat] := List.getElem?_eq_getElem (by omega)
  have e := ix_at i0 hx
  refine ⟨xs[i.toNat]'(by omega), a', b', ?_, List.getElem_mem _, hs⟩
  refine' call_ok (fd := f_law_choose) rfl rfl (q_start ?_) ?_
  repeat' first | ac_rfl
theorem k_stream (k : Nat) (ns : List Int) (j : Int) (h0 : 0 ≤ j) (h1 : j ≤ 11) (hl : ns.length ≤ 63) : ∃ a b, Kv (callN shownD P (k + 1)) 5 [.lst (ns.map .int), .int j] (stD a b) [] ∧ StOk a b := by
  have core : ∀ c : Int, ∃ a b, StOk a b ∧ ∀ r : Env, r = [.fz (.lst (ns.map .int)), .fz (.int j), .fz (.int c), .un, .un] → ∃ r', Sv P (callN shownD P k) true (.seq (.asg (.sl 3) (.op .max2 (.cons (.nm 2) (.cons (.op .sub (.cons (.op .neg (.cons (.kst (.int 1)) .nil)) (.cons (.nm 2) .nil))) .nil))))
      (.seq (.asg (.sl 4) (.op .mod (.cons (.op .mul (.cons (.op .add (.cons (.op .add (.cons (.op .add (.cons (.op .mod (.cons (.nm 3) (.cons (.kst (.int 2147483629)) .nil))) (.cons (.op .mul (.cons (.op .mul (.cons (.kst (.int 7919)) (.cons (.nm 1) .nil))) (.cons (.nm 1) .nil))) .nil))) (.cons (.op .mul (.cons (.kst (.int 31)) (.cons (.nm 1) .nil))) .nil))) (.cons (.kst (.int 17)) .nil))) (.cons (.kst (.int 48271)) .nil))) (.cons (.kst (.int 2147483647)) .nil))))
      (.seq (.ret (.op .lst (.cons (.op .mul (.cons (.nm 3) (.cons (.op .toInt (.cons (.op .ge (.cons (.nm 3) (.cons (.op .pow (.cons (.kst (.int 10)) (.cons (.kst (.int 18)) .nil))) .nil))) .nil)) .nil))) (.cons (.cap 4) .nil))))
      .nil))) r (.ret (stD a b)) r' ∧ iosOf [false, false] r' = some [] := by
    intro c
    have hs0 : 0 ≤ (if -1 - c > c then -1 - c else c) := by split <;> omega
    have em : ap .max2 [.int c, .int (-1 - c)] = some (.int (if -1 - c > c then -1 - c else c)) := rfl
    generalize (if -1 - c > c then -1 - c else c) = z at hs0 em
    have m1 : 0 ≤ z.fmod 2147483629 ∧ z.fmod 2147483629 < 2147483629 := ⟨Int.fmod_nonneg_of_pos _ (by decide), Int.fmod_lt_of_pos _ (by decide)⟩
    have e1 := ap_mod z 2147483629 (by decide)
    generalize z.fmod 2147483629 = y at m1 e1
    have e2 := ap_mul 7919 j (by decide) (by decide)
    have e3 := ap_mul (7919 * j) j (by omega) (by omega)
    have e4 := ap_mul 31 j (by decide) (by decide)
    have hjj : 7919 * j * j ≤ 7919 * 11 * 11 := by
      have h2 : 7919 * j ≤ 7919 * 11 := by omega
      have h3 : 0 ≤ 7919 * j := by omega
      exact Int.le_trans (Int.mul_le_mul_of_nonneg_right h2 h0) (Int.mul_le_mul_of_nonneg_left h1 (by omega))
    have hj0 : 0 ≤ 7919 * j * j := Int.mul_nonneg (by omega) h0
    have e5 := ap_mul (y + 7919 * j * j + 31 * j + 17) 48271 (by omega) (by omega)
    have e6 := ap_mod ((y + 7919 * j * j + 31 * j + 17) * 48271) 2147483647 (by decide)
    have m2 : 0 ≤ ((y + 7919 * j * j + 31 * j + 17) * 48271).fmod SM ∧ ((y + 7919 * j * j + 31 * j + 17) * 48271).fmod SM < SM := ⟨Int.fmod_nonneg_of_pos _ (by decide), Int.fmod_lt_of_pos _ (by decide)⟩
    have e6 : ap .mod [.int ((y + 7919 * j * j + 31 * j + 17) * 48271), .int 2147483647] = some (.int (((y + 7919 * j * j + 31 * j + 17) * 48271).fmod SM)) := e6
    generalize ((y + 7919 * j * j + 31 * j + 17) * 48271).fmod SM = w at m2 e6
    have e7 : ap .mul [.int z, .int (b2i (decide ((10 : Int) ^ 18 ≤ z)))] = some (.int (z * b2i (decide ((10 : Int) ^ 18 ≤ z)))) := by
      show (if mulOk z (b2i (decide ((10 : Int) ^ 18 ≤ z))) then some (D.int (z * b2i (decide ((10 : Int) ^ 18 ≤ z)))) else none) = _
      rw [if_pos]
      unfold mulOk
      cases decide ((10 : Int) ^ 18 ≤ z) <;> simp [b2i]
    have ep : ap .pow [.int 10, .int 18] = some (.int ((10 : Int) ^ 18)) := rfl
    have hz : 0 ≤ z * b2i (decide ((10 : Int) ^ 18 ≤ z)) := Int.mul_nonneg hs0 (by cases decide ((10 : Int) ^ 18 ≤ z) <;> decide)
    have eg : ap .ge [.int z, .int ((10 : Int) ^ 18)] = some (.bl (decide ((10 : Int) ^ 18 ≤ z))) := rfl
    generalize (10 : Int) ^ 18 = big at e7 ep hz eg
    generalize decide (big ≤ z) = t at e7 hz eg
    refine ⟨_, w, ⟨hz, m2⟩, ?_⟩
    rintro r rfl
    refine' ⟨_, ?_, ?_⟩
    repeat' first | ac_rfl
  by_cases hj : j < ns.length
  · obtain ⟨c, hcx⟩ : ∃ c, ns[j.toNat]? = some c := ⟨_, List.getElem?_eq_getElem (by omega)⟩
    have hx : (ns.map D.int)[j.toNat]? = some (.int c) := by
      rw [List.getElem?_map, hcx]
      rfl
    have e := ix_at h0 hx
    obtain ⟨a, b, hs, hc⟩ := core c
    obtain ⟨r', h2, h3⟩ := hc _ rfl
    refine ⟨a, b, ?_, hs⟩
    have el : ap .len [.lst (ns.map .int)] = some (.int ns.length) := by
      show some (D.int ((ns.map D.int).length : Nat)) = _
      rw [List.length_map]
    have hj' : decide (j < (ns.length : Nat)) = true := decide_eq_true hj
    refine' call_ok (fd := f_law_stream) rfl rfl (q_start (q_seq (q_asg e_kst rfl (q_seq (q_if ?_ (cp_tb hj' (q_seq (q_asg (d := .int c) (r1 := [.fz (.lst (ns.map .int)), .fz (.int j), .fz (.int 0), .un, .un]) (r2 := [.fz (.lst (ns.map .int)), .fz (.int j), .fz (.int c), .un, .un]) ?_ rfl (q_nil (q_seqs h2)))))))))) h3
    repeat' first | ac_rfl
    repeat' first | ac_rfl
  · obtain ⟨a, b, hs, hc⟩ := core 0
    obtain ⟨r', h2, h3⟩ := hc _ rfl
    refine ⟨a, b, ?_, hs⟩
    have el : ap .len [.lst (ns.map .int)] = some (.int ns.length) := by
      show some (D.int ((ns.map D.int).length : Nat)) = _
      rw [List.length_map]
    have hj' : decide (j < (ns.length : Nat)) = false := decide_eq_false hj
    refine' call_ok (fd := f_law_stream) rfl rfl (q_start (q_seq (q_asg e_kst rfl (q_seq (q_if ?_ (cp_fb hj' (q_nil (q_seqs h2)))))))) h3
    repeat' first | ac_rfl
/-! ### names, concepts, axioms -/
def nmOk : D → Bool
  | .str s => decide (s.length ≤ 8) && s.cps.toList.all fun c => decide (c < 128)
  | _ => false
def nmsOk (xs : List D) : Prop := xs ≠ [] ∧ xs.length ≤ 4 ∧ ∀ x ∈ xs, nmOk x = true
def NmOk (nm : D) : Prop := ∃ cs rs, nm = .tup [.lst cs, .lst rs] ∧ nmsOk cs ∧ nmsOk rs
def preD (h : Str) : D → D
  | .str z => .str (h ++ z)
  | _ => .non
theorem pre_map (k : Nat) (h : Str) (hh : h.length ≤ 7) (w : List Nat) (hw : w.length ≤ 4) (x3 x2 x0 : Slot) : ∃ x, Cv P (callN shownD P k) [4] (.sl 4) (.kst (.bl true)) (.op .add (.cons (.nm 1) (.cons (.nm 4) .nil))) [] (w.map chr1) [x0, .fz (.str h), x2, x3, .un] (w.map fun c => .str (h ++ ⟨#[c]⟩)) [x0, .fz (.str h), x2, x3, x] := by
  obtain ⟨r', hc, x, rfl⟩ := c_map (P := P) (cf := callN shownD P k) (own := [4]) (tg := .sl 4) (cc := .kst (.bl true)) (e := .op .add (.cons (.nm 1) (.cons (.nm 4) .nil))) (xs := w.map chr1) (fun _ => true) (preD h)
    (fun r => ∃ x, r = [x0, .fz (.str h), x2, x3, x]) (by
      rintro r x ⟨y, rfl⟩ hx
      obtain ⟨c, _, rfl⟩ := List.mem_map.mp hx
      have e : ap .add [.str h, chr1 c] = some (preD h (chr1 c)) := by
        show (if h.length + (⟨#[c]⟩ : Str).length ≤ line then some (D.str (h ++ ⟨#[c]⟩)) else none) = _
        rw [if_pos (Nat.le_trans (Nat.add_le_add_right hh _) (by show 7 + 1 ≤ line; decide))]
        rfl
      exact ⟨_, _, _, rfl, e_kst, rfl, fun _ => ⟨_, e_op (e_cons (e_nm rfl) (e_cons (e_nm rfl) e_nil)) rfl e, _, rfl⟩, fun z => (by cases z)⟩) [] [x0, .fz (.str h), x2, x3, .un] ⟨_, rfl⟩ (by simp only [List.length_nil, List.length_map, Nat.zero_add]; exact Nat.le_trans hw (by decide))
  refine ⟨x, ?_⟩
  have e2 : [] ++ ((w.map chr1).filter fun _ => true).map (preD h) = w.map fun c => D.str (h ++ ⟨#[c]⟩) := by
    rw [List.filter_eq_self.mpr (fun _ _ => rfl), List.map_map, List.nil_append]
    rfl
  rw [e2] at hc
  exact hc
theorem names_ok (h : Str) (hh : h = "" ∨ h = "k" ∨ h = "zzzzzzz") : nmsOk ([97, 98, 99, 100].map fun c => D.str (h ++ ⟨#[c]⟩)) ∧ nmsOk ([114, 115, 116].map fun c => D.str (h ++ ⟨#[c]⟩)) ∧ nmsOk ([97, 98, 99].map fun c => D.str (h ++ ⟨#[c]⟩)) := by
  rcases hh with rfl | rfl | rfl <;> refine ⟨⟨by simp, by decide, ?_⟩, ⟨by simp, by decide, ?_⟩, ⟨by simp, by decide, ?_⟩⟩ <;> (rw [← List.all_eq_true]; decide +kernel)
theorem k_names (k : Nat) (a b : Int) (h : StOk a b) : ∃ nm a' b', Kv (callN shownD P (k + 2)) 8 [stD a b] nm [stD a' b'] ∧ NmOk nm ∧ StOk a' b' := by
  obtain ⟨i, a1, b1, h1, i0, i1, s1⟩ := k_draw k a b 3 h (by decide) (by decide)
  obtain ⟨j, a2, b2, h2, j0, j1, s2⟩ := k_draw k a1 b1 4 s1 (by decide) (by decide)
  have key : ∀ hd : Str, (hd = "" ∨ hd = "k" ∨ hd = "zzzzzzz") → ap .ix [.lst [.str "", .str "k", .str "zzzzzzz"], .int i] = some (.str hd) → ∃ nm a' b', Kv (callN shownD P (k + 2)) 8 [stD a b] nm [stD a' b'] ∧ NmOk nm ∧ StOk a' b' := by
    intro hd hh e
    have hl : hd.length ≤ 7 := by rcases hh with rfl | rfl | rfl <;> decide +kernel
    obtain ⟨n1, n2, n3⟩ := names_ok hd hh
    obtain ⟨y1, c1⟩ := pre_map (k + 1) hd hl [97, 98, 99, 100] (by decide) .un .un (.ow (stD a1 b1))
    obtain ⟨y2, c2⟩ := pre_map (k + 1) hd hl [114, 115, 116] (by decide) .un (.ow (.lst ([97, 98, 99, 100].map fun c => D.str (hd ++ ⟨#[c]⟩)))) (.ow (stD a1 b1))
    by_cases hj : j = 0
    · subst hj
      refine ⟨.tup [.lst ([97, 98, 99, 100].map fun c => D.str (hd ++ ⟨#[c]⟩)), .lst ([97, 98, 99].map fun c => D.str (hd ++ ⟨#[c]⟩))], a2, b2, ?_, ⟨_, _, rfl, n1, n3⟩, s2⟩
      refine' call_ok (fd := f_law_names) rfl rfl (q_start ?_) ?_
      repeat' first | ac_rfl
    · have hj' : D.eq (.int j) (.int 0) = false := beq_eq_false_iff_ne.mpr hj
      have ej : ap .toInt [.bl (D.eq (.int j) (.int 0))] = some (.int 0) := by rw [hj']; rfl
      refine ⟨.tup [.lst ([97, 98, 99, 100].map fun c => D.str (hd ++ ⟨#[c]⟩)), .lst ([114, 115, 116].map fun c => D.str (hd ++ ⟨#[c]⟩))], a2, b2, ?_, ⟨_, _, rfl, n1, n2⟩, s2⟩
      refine' call_ok (fd := f_law_names) rfl rfl (q_start ?_) ?_
      repeat' first | ac_rfl
  have hi : i = 0 ∨ i = 1 ∨ i = 2 := by omega
  rcases hi with rfl | rfl | rfl
  · exact key "" (.inl rfl) rfl
  · exact key "k" (.inr (.inl rfl)) rfl
  · exact key "zzzzzzz" (.inr (.inr rfl)) rfl
/-! ### concepts and axioms of the law -/
def txOk : D → Bool
  | .str s => decide (s.length ≤ 20) && s.cps.toList.all fun c => decide (c < 4294967296)
  | _ => false
def itOk : D → Bool
  | .str s => txOk (.str s)
  | .tup xs => decide (xs.length ≤ 3) && xs.all txOk
  | _ => false
theorem nm_tx {x : D} (h : nmOk x = true) : txOk x = true := by
  cases x <;> try (cases h; done)
  rename_i s
  have h : (decide (s.length ≤ 8) && s.cps.toList.all fun c => decide (c < 128)) = true := h
  rw [Bool.and_eq_true, decide_eq_true_eq, List.all_eq_true] at h
  show (decide (s.length ≤ 20) && s.cps.toList.all fun c => decide (c < 4294967296)) = true
  rw [Bool.and_eq_true, decide_eq_true_eq, List.all_eq_true]
  exact ⟨by omega, fun c hc => decide_eq_true (by have := of_decide_eq_true (h.2 c hc); omega)⟩
theorem tx_it {x : D} (h : txOk x = true) : itOk x = true := by
  cases x <;> try (cases h; done)
  exact h
theorem pair_it {x y : D} (h : txOk x = true) (h2 : txOk y = true) : itOk (.tup [x, y]) = true := by
  show (true && (txOk x && (txOk y && true))) = true
  rw [h, h2]
  rfl
/-- what the law draws: a tuple of two or three, the first a text -/
def Val (v : D) : Prop := ∃ w xs, v = .tup (.str w :: xs) ∧ 1 ≤ xs.length ∧ xs.length ≤ 2 ∧ itOk (.str w) = true ∧ ∀ x ∈ xs, itOk x = true
theorem k_concept (k : Nat) (a b : Int) (nm : D) (h : StOk a b) (hn : NmOk nm) : ∃ w x a' b', Kv (callN shownD P (k + 3)) 9 [stD a b, nm] (.tup [.str w, x]) [stD a' b'] ∧ txOk (.str w) = true ∧ txOk x = true ∧ StOk a' b' := by
  obtain ⟨cs, rs, rfl, hc, hr⟩ := hn
  obtain ⟨i, a1, b1, h1, i0, i1, s1⟩ := k_draw (k + 1) a b 4 h (by decide) (by decide)
  obtain ⟨x, a2, b2, h2, hx, s2⟩ := k_choose k a1 b1 cs s1 hc.1 (Nat.le_trans hc.2.1 (by decide))
  obtain ⟨y, a3, b3, h3, hy, s3⟩ := k_choose k a1 b1 rs s1 hr.1 (Nat.le_trans hr.2.1 (by decide))
  have hi : i = 0 ∨ i = 1 ∨ i = 2 ∨ i = 3 := by omega
  rcases hi with rfl | rfl | rfl | rfl
  · refine ⟨"concept", x, a2, b2, ?_, by decide +kernel, nm_tx (hc.2.2 x hx), s2⟩
    have e : ap .toInt [.bl (!D.eq (.str "concept") (.str "concept"))] = some (.int 0) := rfl
    refine' call_ok (fd := f_law_concept) rfl rfl (q_start ?_) ?_
    repeat' first | ac_rfl
  · refine ⟨"concept", x, a2, b2, ?_, by decide +kernel, nm_tx (hc.2.2 x hx), s2⟩
    have e : ap .toInt [.bl (!D.eq (.str "concept") (.str "concept"))] = some (.int 0) := rfl
    refine' call_ok (fd := f_law_concept) rfl rfl (q_start ?_) ?_
    repeat' first | ac_rfl
  · refine ⟨"out", y, a3, b3, ?_, by decide +kernel, nm_tx (hr.2.2 y hy), s3⟩
    have e : ap .toInt [.bl (!D.eq (.str "out") (.str "concept"))] = some (.int 1) := rfl
    refine' call_ok (fd := f_law_concept) rfl rfl (q_start ?_) ?_
    repeat' first | ac_rfl
  · refine ⟨"in", y, a3, b3, ?_, by decide +kernel, nm_tx (hr.2.2 y hy), s3⟩
    have e : ap .toInt [.bl (!D.eq (.str "in") (.str "concept"))] = some (.int 1) := rfl
    refine' call_ok (fd := f_law_concept) rfl rfl (q_start ?_) ?_
    repeat' first | ac_rfl
/-! ### what can be shown -/
def good (v : D) : Bool := gd 4 v && (v.flat || v.noL)
def bnd : Nat → Nat
  | 0 => 1002
  | n + 1 => 8 * bnd n + 19
theorem bnd_ge : ∀ n : Nat, 1002 ≤ bnd n
  | 0 => Nat.le_refl _
  | n + 1 => by have := bnd_ge n; show 1002 ≤ 8 * bnd n + 19; omega
theorem sum_le {b : Nat} : ∀ {xs : List Str}, (∀ x ∈ xs, x.length ≤ b) → (xs.map (·.length)).sum ≤ xs.length * b
  | [], _ => by simp
  | x :: xs, h => by
    rw [List.map_cons, List.sum_cons, List.length_cons, Nat.succ_mul]
    have h1 := h x List.mem_cons_self
    have h2 := sum_le fun y hy => h y (List.mem_cons_of_mem _ hy)
    omega
theorem toPs_len : ∀ xs : List D, (PyData.shownAll (D.toP.toPs xs)).length = xs.length
  | [] => rfl
  | x :: xs => by
    rw [show D.toP.toPs (x :: xs) = x.toP :: D.toP.toPs xs from rfl, PyData.shownAll, List.length_cons, toPs_len xs, List.length_cons]
theorem toPs_all {m b : Nat} : ∀ xs : List D, (∀ x ∈ xs, x.toP.showable = true ∧ x.toP.depth ≤ m ∧ x.toP.shown.length ≤ b) → PyData.showableAll (D.toP.toPs xs) = true ∧ PyData.depthAll (D.toP.toPs xs) ≤ m ∧ ∀ t ∈ PyData.shownAll (D.toP.toPs xs), t.length ≤ b
  | [], _ => ⟨by rw [show D.toP.toPs [] = [] from rfl, PyData.showableAll], by rw [show D.toP.toPs [] = [] from rfl, PyData.depthAll]; exact Nat.zero_le _, by rw [show D.toP.toPs [] = [] from rfl, PyData.shownAll]; exact fun _ h => nomatch h⟩
  | x :: xs, h => by
    obtain ⟨h1, h2, h3⟩ := h x List.mem_cons_self
    obtain ⟨k1, k2, k3⟩ := toPs_all xs fun y hy => h y (List.mem_cons_of_mem _ hy)
    rw [show D.toP.toPs (x :: xs) = x.toP :: D.toP.toPs xs from rfl]
    refine ⟨by rw [PyData.showableAll, h1, k1]; rfl, by rw [PyData.depthAll]; exact Nat.max_le.mpr ⟨h2, k2⟩, ?_⟩
    rw [PyData.shownAll]
    intro t ht
    rcases List.mem_cons.mp ht with rfl | ht
    · exact h3
    · exact k3 t ht
theorem gd_shown : ∀ (n : Nat) (v : D), gd n v = true → v.toP.showable = true ∧ v.toP.depth ≤ n + 1 ∧ v.toP.shown.length ≤ bnd n := by
  intro n
  induction n with
  | zero =>
    intro v h
    cases v with
    | non => exact ⟨by rw [D.toP, PyData.showable], by rw [D.toP, PyData.depth] <;> first | exact Nat.zero_le _ | (intros; simp), by rw [D.toP, PyData.shown]; decide⟩
    | bl b => exact ⟨by rw [D.toP, PyData.showable], by rw [D.toP, PyData.depth] <;> first | exact Nat.zero_le _ | (intros; simp), by rw [D.toP, PyData.shown]; cases b <;> decide⟩
    | int i =>
      rw [gd, Bool.and_eq_true, decide_eq_true_eq, decide_eq_true_eq] at h
      exact ⟨by rw [D.toP, PyData.showable]; exact decide_eq_true h.2, by rw [D.toP, PyData.depth] <;> first | exact Nat.zero_le _ | (intros; simp), h.1⟩
    | str s =>
      rw [gd, Bool.and_eq_true, decide_eq_true_eq, List.all_eq_true] at h
      refine ⟨by rw [D.toP, PyData.showable], by rw [D.toP, PyData.depth] <;> first | exact Nat.zero_le _ | (intros; simp), ?_⟩
      rw [D.toP, PyData.shown]
      have := StrLaws.reprText_len s fun c hc => of_decide_eq_true (h.2 c hc)
      show _ ≤ 1002
      omega
    | tup xs => cases h
    | lst xs => cases h
    | dct kvs =>
      have h : kvs.isEmpty = true := h
      obtain rfl := List.isEmpty_iff.mp h
      decide +kernel
  | succ n ih =>
    intro v h
    have hb := bnd_ge (n + 1)
    cases v with
    | non => exact ⟨by rw [D.toP, PyData.showable], by rw [D.toP, PyData.depth] <;> first | exact Nat.zero_le _ | (intros; simp), by rw [D.toP, PyData.shown]; exact Nat.le_trans (by decide) hb⟩
    | bl b => exact ⟨by rw [D.toP, PyData.showable], by rw [D.toP, PyData.depth] <;> first | exact Nat.zero_le _ | (intros; simp), by rw [D.toP, PyData.shown]; exact Nat.le_trans (by cases b <;> decide) hb⟩
    | int i =>
      rw [gd, Bool.and_eq_true, decide_eq_true_eq, decide_eq_true_eq] at h
      exact ⟨by rw [D.toP, PyData.showable]; exact decide_eq_true h.2, by rw [D.toP, PyData.depth] <;> first | exact Nat.zero_le _ | (intros; simp), Nat.le_trans h.1 hb⟩
    | str s =>
      rw [gd, Bool.and_eq_true, decide_eq_true_eq, List.all_eq_true] at h
      refine ⟨by rw [D.toP, PyData.showable], by rw [D.toP, PyData.depth] <;> first | exact Nat.zero_le _ | (intros; simp), ?_⟩
      rw [D.toP, PyData.shown]
      have := StrLaws.reprText_len s fun c hc => of_decide_eq_true (h.2 c hc)
      omega
    | tup xs =>
      rw [gd, Bool.and_eq_true, decide_eq_true_eq, List.all_eq_true] at h
      obtain ⟨k1, k2, k3⟩ := toPs_all xs fun x hx => ih x (h.2 x hx)
      rw [D.toP]
      refine ⟨by rw [PyData.showable]; exact k1, by rw [PyData.depth]; omega, ?_⟩
      rw [PyData.shown]
      have t1 := tupleText_len_le (PyData.shownAll (D.toP.toPs xs))
      have t2 := sum_le k3
      rw [toPs_len] at t1 t2
      show _ ≤ 8 * bnd n + 19
      have t3 : xs.length * bnd n ≤ 8 * bnd n := Nat.mul_le_mul_right _ h.1
      omega
    | lst xs =>
      rw [gd, Bool.and_eq_true, decide_eq_true_eq, List.all_eq_true] at h
      obtain ⟨k1, k2, k3⟩ := toPs_all xs fun x hx => ih x (h.2 x hx)
      rw [D.toP]
      refine ⟨by rw [PyData.showable]; exact k1, by rw [PyData.depth]; omega, ?_⟩
      rw [PyData.shown]
      have t1 := listText_len_le (PyData.shownAll (D.toP.toPs xs))
      have t2 := sum_le k3
      rw [toPs_len] at t1 t2
      show _ ≤ 8 * bnd n + 19
      have t3 : xs.length * bnd n ≤ 8 * bnd n := Nat.mul_le_mul_right _ h.1
      omega
    | dct kvs =>
      have h : kvs.isEmpty = true := h
      obtain rfl := List.isEmpty_iff.mp h
      have e : (D.dct []).toP.showable = true ∧ (D.dct []).toP.depth = 1 ∧ (D.dct []).toP.shown.length ≤ 1002 := by decide +kernel
      exact ⟨e.1, by rw [e.2.1]; omega, Nat.le_trans e.2.2 hb⟩
theorem good_shown {v : D} (h : good v = true) : ∃ s, ap .repr [v] = some (.str s) := by
  unfold good at h
  rw [Bool.and_eq_true] at h
  obtain ⟨h1, h2, h3⟩ := gd_shown 4 v h.1
  refine ⟨v.toP.shown, ?_⟩
  show (shownD v).map D.str = _
  unfold shownD
  rw [h.2, h1, decide_eq_true (Nat.le_trans h2 (by decide)), decide_eq_true (Nat.le_trans h3 (by decide))]
  rfl
/-! ### the check, the fixed values -/
theorem eq_strs (x y : Str) : ap .eq [.lst [.str x, .str y], .lst [.str x, .str y]] = some (.bl true) := by
  show (if (D.lst [.str x, .str y]).cmp && (D.lst [.str x, .str y]).cmp then some (D.bl (D.eq (.lst [.str x, .str y]) (.lst [.str x, .str y]))) else none) = _
  rw [D.eq_refl (D.lst [.str x, .str y]) rfl]
  rfl
theorem eq_str1 (x : Str) : ap .eq [.str x, .str x] = some (.bl true) := by
  show (if (D.str x).cmp && (D.str x).cmp then some (D.bl (D.eq (.str x) (.str x))) else none) = _
  rw [D.eq_refl (D.str x) rfl]
  rfl
theorem k_check (k : Nat) (v : D) (hg : good v = true) : Kv (callN shownD P (k + 6)) 14 [v] (.bl true) [] := by
  obtain ⟨s, hs⟩ := good_shown hg
  have h5 : gd 4 v = true := by
    unfold good at hg
    rw [Bool.and_eq_true] at hg
    exact hg.1
  have c1 := k_con (k + 1) 4 v h5
  have c2 := k_ax k 4 v h5
  have c3 := k_lcon (k + 3) 4 v h5
  have c4 := k_lax (k + 2) 4 v h5
  obtain ⟨x, hx⟩ : ∃ x, ap .repr [.bl (conB v)] = some (.str x) := good_shown (by cases conB v <;> decide +kernel)
  obtain ⟨y, hy⟩ : ∃ y, ap .repr [.bl (axB v)] = some (.str y) := good_shown (by cases axB v <;> decide +kernel)
  have e1 := eq_strs x y
  have e2 := eq_str1 s
  refine' call_ok (fd := f_law_check) rfl rfl (q_start ?_) ?_
  repeat' first | ac_rfl
def fixL : List D := match callN shownD P 1 15 [] with
  | .ok (.lst xs) _ => xs
  | _ => []
theorem k_fixed (k : Nat) : Kv (callN shownD P (k + 1)) 15 [] (.lst fixL) [] := ⟨rfl⟩
theorem fix_good : ∀ x ∈ fixL, good x = true := by
  rw [← List.all_eq_true]
  decide +kernel
theorem fix_len : fixL.length ≤ 100 := by decide +kernel
/-! ### axioms, what is mutated -/
abbrev MENU : List D := [.str "subclass", .str "disjoint", .str "subrole", .str "subrole_inverse", .str "disjoint_roles", .str "disjoint_inverse", .str "functional"]
theorem menu_cases {d : D} (h : d ∈ MENU) : d = .str "subclass" ∨ d = .str "disjoint" ∨ d = .str "subrole" ∨ d = .str "subrole_inverse" ∨ d = .str "disjoint_roles" ∨ d = .str "disjoint_inverse" ∨ d = .str "functional" := by
  simpa only [MENU, List.mem_cons, List.not_mem_nil, or_false] using h
theorem val3 {w : Str} {x y : D} (h0 : itOk (.str w) = true) (h1 : itOk x = true) (h2 : itOk y = true) : Val (.tup [.str w, x, y]) :=
  ⟨w, [x, y], rfl, Nat.le_of_ble_eq_true rfl, Nat.le_of_ble_eq_true rfl, h0, fun z hz => by
    rcases List.mem_cons.mp hz with rfl | hz
    · exact h1
    · rcases List.mem_cons.mp hz with rfl | hz
      · exact h2
      · cases hz⟩
theorem val2 {w : Str} {x : D} (h0 : itOk (.str w) = true) (h1 : itOk x = true) : Val (.tup [.str w, x]) :=
  ⟨w, [x], rfl, Nat.le_of_ble_eq_true rfl, Nat.le_of_ble_eq_true rfl, h0, fun z hz => by
    rcases List.mem_cons.mp hz with rfl | hz
    · exact h1
    · cases hz⟩
theorem k_axiom (k : Nat) (a b : Int) (nm : D) (h : StOk a b) (hn : NmOk nm) : ∃ v a' b', Kv (callN shownD P (k + 4)) 10 [stD a b, nm, .lst MENU] v [stD a' b'] ∧ Val v ∧ StOk a' b' := by
  obtain ⟨d, a1, b1, h1, hd, s1⟩ := k_choose (k + 1) a b MENU h (by decide) (by decide)
  obtain ⟨w1, x1, a2, b2, h2, tw1, tx1, s2⟩ := k_concept k a1 b1 nm s1 hn
  obtain ⟨w2, x2, a3, b3, h3, tw2, tx2, s3⟩ := k_concept k a2 b2 nm s2 hn
  obtain ⟨cs, rs, rfl, hc, hr⟩ := hn
  obtain ⟨y1, a4, b4, h4, hy1, s4⟩ := k_choose (k + 1) a1 b1 rs s1 hr.1 (Nat.le_trans hr.2.1 (by decide))
  obtain ⟨y2, a5, b5, h5, hy2, s5⟩ := k_choose (k + 1) a4 b4 rs s4 hr.1 (Nat.le_trans hr.2.1 (by decide))
  obtain ⟨i, a6, b6, h6, i0, i1, s6⟩ := k_draw (k + 2) a1 b1 2 s1 (by decide) (by decide)
  obtain ⟨y3, a7, b7, h7, hy3, s7⟩ := k_choose (k + 1) a6 b6 rs s6 hr.1 (Nat.le_trans hr.2.1 (by decide))
  have n1 := tx_it (nm_tx (hr.2.2 y1 hy1))
  have n2 := tx_it (nm_tx (hr.2.2 y2 hy2))
  rcases menu_cases hd with rfl | rfl | rfl | rfl | rfl | rfl | rfl
  · refine ⟨.tup [.str "subclass", .tup [.str w1, x1], .tup [.str w2, x2]], a3, b3, ?_, val3 (by decide +kernel) (pair_it tw1 tx1) (pair_it tw2 tx2), s3⟩
    refine' call_ok (fd := f_law_axiom) rfl rfl (q_start ?_) ?_
    repeat' first | ac_rfl
  · refine ⟨.tup [.str "disjoint", .tup [.str w1, x1], .tup [.str w2, x2]], a3, b3, ?_, val3 (by decide +kernel) (pair_it tw1 tx1) (pair_it tw2 tx2), s3⟩
    refine' call_ok (fd := f_law_axiom) rfl rfl (q_start ?_) ?_
    repeat' first | ac_rfl
  · refine ⟨.tup [.str "subrole", y1, y2], a5, b5, ?_, val3 (by decide +kernel) n1 n2, s5⟩
    refine' call_ok (fd := f_law_axiom) rfl rfl (q_start ?_) ?_
    repeat' first | ac_rfl
  · refine ⟨.tup [.str "subrole_inverse", y1, y2], a5, b5, ?_, val3 (by decide +kernel) n1 n2, s5⟩
    refine' call_ok (fd := f_law_axiom) rfl rfl (q_start ?_) ?_
    repeat' first | ac_rfl
  · refine ⟨.tup [.str "disjoint_roles", y1, y2], a5, b5, ?_, val3 (by decide +kernel) n1 n2, s5⟩
    refine' call_ok (fd := f_law_axiom) rfl rfl (q_start ?_) ?_
    repeat' first | ac_rfl
  · refine ⟨.tup [.str "disjoint_inverse", y1, y2], a5, b5, ?_, val3 (by decide +kernel) n1 n2, s5⟩
    refine' call_ok (fd := f_law_axiom) rfl rfl (q_start ?_) ?_
    repeat' first | ac_rfl
  · have hi : i = 0 ∨ i = 1 := by omega
    rcases hi with rfl | rfl
    · refine ⟨.tup [.str "functional", .tup [.str "out", y3]], a7, b7, ?_, val2 (by decide +kernel) (pair_it (by decide +kernel) (nm_tx (hr.2.2 y3 hy3))), s7⟩
      refine' call_ok (fd := f_law_axiom) rfl rfl (q_start ?_) ?_
      repeat' first | ac_rfl
    · refine ⟨.tup [.str "functional", .tup [.str "in", y3]], a7, b7, ?_, val2 (by decide +kernel) (pair_it (by decide +kernel) (nm_tx (hr.2.2 y3 hy3))), s7⟩
      refine' call_ok (fd := f_law_axiom) rfl rfl (q_start ?_) ?_
      repeat' first | ac_rfl
abbrev ODD : List D := [.non, .bl true, .int 1, .str "", .str "a b", .str "A", .str "abcdefghi", .tup [], .lst [], .dct [], .lst [.str "out", .str "r"], .tup [.str "concept"], .tup [.str "out", .int 1], .tup [.str "in", .str ""],
  .str "subclass", .str "functional", .str "out", .tup [.str "out", .str "r"], .tup [.str "concept", .str "a"], .tup [.str "concept", .tup [.str "concept", .str "a"]]]
inductive Mut : D → Prop
  | lst (xs : List D) : xs.length ≤ 7 → (∀ x ∈ xs, itOk x = true) → Mut (.lst xs)
  | tup (xs : List D) : xs.length ≤ 7 → (∀ x ∈ xs, itOk x = true) → Mut (.tup xs)
  | odd (xs ys : List D) (o : D) : xs.length + ys.length ≤ 7 → (∀ x ∈ xs, itOk x = true) → (∀ x ∈ ys, itOk x = true) → o ∈ ODD → Mut (.tup (xs ++ [o] ++ ys))
theorem cut_mem {α : Type} {xs : List α} {lo hi : Option Int} {x : α} (h : x ∈ cutD xs lo hi) : x ∈ xs := List.mem_of_mem_drop (List.mem_of_mem_take h)
theorem cut_len {α : Type} {xs : List α} {lo hi : Option Int} : (cutD xs lo hi).length ≤ xs.length := by
  unfold cutD
  rw [List.length_take, List.length_drop]
  omega
theorem add_tup {xs ys : List D} (h : xs.length + ys.length ≤ 100) : ap .add [.tup xs, .tup ys] = some (.tup (xs ++ ys)) := by
  show (if xs.length + ys.length ≤ line then some (D.tup (xs ++ ys)) else none) = _
  rw [if_pos (Nat.le_trans h (by decide))]
theorem k_mut (k : Nat) (a b : Int) (xs : List D) (h : StOk a b) (h1 : 1 ≤ xs.length) (h2 : xs.length ≤ 3) (hx : ∀ x ∈ xs, itOk x = true) : ∃ m a' b', Kv (callN shownD P (k + 3)) 16 [stD a b, .tup xs] m [stD a' b'] ∧ Mut m ∧ StOk a' b' := by
  obtain ⟨p, a1, b1, c1, p0, p1, s1⟩ := k_draw (k + 1) a b xs.length h (by omega) (by omega)
  obtain ⟨q, a2, b2, c2, q0, q1, s2⟩ := k_draw (k + 1) a1 b1 6 s1 (by decide) (by decide)
  obtain ⟨o, a3, b3, c3, ho, s3⟩ := k_choose k a2 b2 ODD s2 (by decide) (by decide)
  have e1 : ap (.sl false true) [.tup xs, .int p] = some (.tup (cutD xs none (some p))) := rfl
  have e2 : ap (.sl true false) [.tup xs, .int (p + 1)] = some (.tup (cutD xs (some (p + 1)) none)) := rfl
  have lA : (cutD xs none (some p)).length ≤ 3 := Nat.le_trans cut_len h2
  have lB : (cutD xs (some (p + 1)) none).length ≤ 3 := Nat.le_trans cut_len h2
  have mA : ∀ x ∈ cutD xs none (some p), itOk x = true := fun x hz => hx x (cut_mem hz)
  have mB : ∀ x ∈ cutD xs (some (p + 1)) none, itOk x = true := fun x hz => hx x (cut_mem hz)
  generalize cutD xs none (some p) = A at e1 lA mA
  generalize cutD xs (some (p + 1)) none = B at e2 lB mB
  have e3 := add_tup (xs := A) (ys := B) (by omega)
  have e4 := add_tup (xs := xs) (ys := [o]) (by simp only [List.length_singleton]; omega)
  have e5 := add_tup (xs := A) (ys := [o]) (by simp only [List.length_singleton]; omega)
  have e6 := add_tup (xs := A ++ [o]) (ys := B) (by simp only [List.length_append, List.length_singleton]; omega)
  have eo : ap .add [.lst [.non, .bl true, .int 1, .str "", .str "a b", .str "A", .str "abcdefghi", .tup [], .lst [], .dct [], .lst [.str "out", .str "r"], .tup [.str "concept"], .tup [.str "out", .int 1], .tup [.str "in", .str ""]],
    .lst [.str "subclass", .str "functional", .str "out", .tup [.str "out", .str "r"], .tup [.str "concept", .str "a"], .tup [.str "concept", .tup [.str "concept", .str "a"]]]] = some (.lst ODD) := rfl
  by_cases t0 : q = 0
  · subst t0
    refine ⟨.lst xs, a2, b2, ?_, .lst xs (by omega) hx, s2⟩
    refine' call_ok (fd := f_law_mutated) rfl rfl (q_start ?_) ?_
    repeat' first | ac_rfl
  · have f0 : D.eq (.int q) (.int 0) = false := beq_eq_false_iff_ne.mpr t0
    by_cases t1 : q = 1
    · subst t1
      refine ⟨.tup (A ++ B), a2, b2, ?_, .tup _ (by rw [List.length_append]; omega) (fun x hz => (List.mem_append.mp hz).elim (mA x) (mB x)), s2⟩
      refine' call_ok (fd := f_law_mutated) rfl rfl (q_start ?_) ?_
      repeat' first | ac_rfl
    · have f1 : D.eq (.int q) (.int 1) = false := beq_eq_false_iff_ne.mpr t1
      by_cases t2 : q = 2
      · subst t2
        have := Mut.odd xs [] o (by simp only [List.length_nil]; omega) hx (fun _ hz => nomatch hz) ho
        rw [List.append_nil] at this
        refine ⟨.tup (xs ++ [o]), a3, b3, ?_, this, s3⟩
        refine' call_ok (fd := f_law_mutated) rfl rfl (q_start ?_) ?_
        repeat' first | ac_rfl
      · have f2 : D.eq (.int q) (.int 2) = false := beq_eq_false_iff_ne.mpr t2
        refine ⟨.tup (A ++ [o] ++ B), a3, b3, ?_, .odd A B o (by omega) mA mB ho, s3⟩
        refine' call_ok (fd := f_law_mutated) rfl rfl (q_start ?_) ?_
        repeat' first | ac_rfl
/-! ### good again -/
theorem gd_mono : ∀ (n : Nat) (v : D), gd n v = true → gd (n + 1) v = true := by
  intro n
  induction n with
  | zero => intro v h; cases v <;> first | exact h | cases h
  | succ n ih =>
    intro v h
    cases v <;> try (exact h)
    all_goals
      rw [gd, Bool.and_eq_true, List.all_eq_true] at h ⊢
      exact ⟨h.1, fun x hx => ih x (h.2 x hx)⟩
theorem tx_gd {x : D} (h : txOk x = true) : gd 0 x = true ∧ x.flat = true ∧ x.noL = true := by
  cases x <;> try (cases h; done)
  rename_i s
  have h : (decide (s.length ≤ 20) && s.cps.toList.all fun c => decide (c < 4294967296)) = true := h
  rw [Bool.and_eq_true, decide_eq_true_eq] at h
  refine ⟨?_, rfl, rfl⟩
  show (decide (s.length ≤ 100) && s.cps.toList.all fun c => decide (c < 4294967296)) = true
  rw [h.2, Bool.and_true]
  exact decide_eq_true (by omega)
theorem flats_all : ∀ xs : List D, (∀ x ∈ xs, x.flat = true) → D.flat.flats xs = true
  | [], _ => rfl
  | x :: xs, h => by
    show (x.flat && D.flat.flats xs) = true
    rw [h x List.mem_cons_self, flats_all xs fun y hy => h y (List.mem_cons_of_mem _ hy)]
    rfl
theorem noLs_all : ∀ xs : List D, (∀ x ∈ xs, x.noL = true) → D.noL.noLs xs = true
  | [], _ => rfl
  | x :: xs, h => by
    show (x.noL && D.noL.noLs xs) = true
    rw [h x List.mem_cons_self, noLs_all xs fun y hy => h y (List.mem_cons_of_mem _ hy)]
    rfl
theorem it_gd {x : D} (h : itOk x = true) : gd 1 x = true ∧ x.flat = true ∧ x.noL = true := by
  cases x <;> try (cases h; done)
  · rename_i s
    obtain ⟨h1, h2, h3⟩ := tx_gd (x := .str s) h
    exact ⟨gd_mono 0 _ h1, h2, h3⟩
  · rename_i xs
    have h : (decide (xs.length ≤ 3) && xs.all txOk) = true := h
    rw [Bool.and_eq_true, decide_eq_true_eq, List.all_eq_true] at h
    refine ⟨?_, flats_all xs fun x hx => (tx_gd (h.2 x hx)).2.1, noLs_all xs fun x hx => (tx_gd (h.2 x hx)).2.2⟩
    rw [gd, Bool.and_eq_true, decide_eq_true_eq, List.all_eq_true]
    exact ⟨by omega, fun x hx => (tx_gd (h.2 x hx)).1⟩
theorem odd_gd {o : D} (h : o ∈ ODD) : gd 2 o = true ∧ (o.flat || o.noL) = true := by
  have : (ODD.all fun o => gd 2 o && (o.flat || o.noL)) = true := by decide +kernel
  have := List.all_eq_true.mp this o h
  rw [Bool.and_eq_true] at this
  exact this
theorem gd_up {n m : Nat} {v : D} (hm : n ≤ m) (h : gd n v = true) : gd m v = true := by
  induction hm with
  | refl => exact h
  | step _ ih => exact gd_mono _ _ ih
/-- a tuple with at most one odd item -/
theorem one_odd {n : Nat} {xs ys : List D} {o : D} (h1 : 1 ≤ n) (hl : xs.length + ys.length ≤ 7) (hx : ∀ x ∈ xs, itOk x = true) (hy : ∀ x ∈ ys, itOk x = true) (ho : gd n o = true) (hf : (o.flat || o.noL) = true) : gd (n + 1) (.tup (xs ++ [o] ++ ys)) = true ∧ ((D.tup (xs ++ [o] ++ ys)).flat || (D.tup (xs ++ [o] ++ ys)).noL) = true := by
  have each : ∀ x ∈ xs ++ [o] ++ ys, itOk x = true ∨ x = o := fun x h => by
    rcases List.mem_append.mp h with h | h
    · rcases List.mem_append.mp h with h | h
      · exact .inl (hx x h)
      · rcases List.mem_cons.mp h with h | h
        · exact .inr h
        · cases h
    · exact .inl (hy x h)
  refine ⟨?_, ?_⟩
  · rw [gd, Bool.and_eq_true, decide_eq_true_eq, List.all_eq_true]
    refine ⟨by simp only [List.length_append, List.length_singleton]; omega, fun x h => ?_⟩
    rcases each x h with h | rfl
    · exact gd_up h1 (it_gd h).1
    · exact ho
  · rw [Bool.or_eq_true] at hf ⊢
    rcases hf with hf | hf
    · exact .inl (flats_all _ fun x h => (each x h).elim (fun h => (it_gd h).2.1) fun e => by rw [e]; exact hf)
    · exact .inr (noLs_all _ fun x h => (each x h).elim (fun h => (it_gd h).2.2) fun e => by rw [e]; exact hf)
theorem all_it {n : Nat} {xs : List D} (h1 : 1 ≤ n) (hl : xs.length ≤ 7) (hx : ∀ x ∈ xs, itOk x = true) : gd (n + 1) (.tup xs) = true ∧ gd (n + 1) (.lst xs) = true ∧ (D.tup xs).flat = true ∧ (D.lst xs).flat = true := by
  refine ⟨?_, ?_, flats_all _ fun x h => (it_gd (hx x h)).2.1, flats_all _ fun x h => (it_gd (hx x h)).2.1⟩ <;>
  · rw [gd, Bool.and_eq_true, decide_eq_true_eq, List.all_eq_true]
    exact ⟨by omega, fun x h => gd_up h1 (it_gd (hx x h)).1⟩
theorem mut_gd {m : D} (h : Mut m) : gd 3 m = true ∧ (m.flat || m.noL) = true := by
  cases h with
  | lst xs hl hx => obtain ⟨_, h2, _, h4⟩ := all_it (n := 2) (by decide) hl hx; exact ⟨h2, by rw [h4]; rfl⟩
  | tup xs hl hx => obtain ⟨h2, _, h4, _⟩ := all_it (n := 2) (by decide) hl hx; exact ⟨h2, by rw [h4]; rfl⟩
  | odd xs ys o hl hx hy ho => obtain ⟨h1, h2⟩ := odd_gd ho; exact one_odd (by decide) hl hx hy h1 h2
theorem mut_good {m : D} (h : Mut m) : good m = true := by
  obtain ⟨h1, h2⟩ := mut_gd h
  unfold good
  rw [gd_mono 3 m h1, h2]
  rfl
theorem val_good {v : D} (h : Val v) : good v = true := by
  obtain ⟨w, xs, rfl, h1, h2, h3, h4⟩ := h
  obtain ⟨k1, _, k2, _⟩ := all_it (n := 3) (xs := .str w :: xs) (by decide) (by rw [List.length_cons]; omega) fun x hx => by
    rcases List.mem_cons.mp hx with rfl | hx
    · exact h3
    · exact h4 x hx
  unfold good
  rw [k1, k2]
  rfl
/-- value[:-1] + (last,) -/
theorem last_good {xs : List D} {m : D} (hl : xs.length ≤ 7) (hx : ∀ x ∈ xs, itOk x = true) (h : Mut m) : good (.tup (xs ++ [m])) = true := by
  obtain ⟨h1, h2⟩ := mut_gd h
  have := one_odd (n := 3) (xs := xs) (ys := []) (o := m) (by decide) (by rw [List.length_nil]; omega) hx (fun _ h => nomatch h) h1 h2
  rw [List.append_nil] at this
  unfold good
  rw [this.1, this.2]
  rfl
/-! ### the law -/
theorem val_first {v : D} (h : Val v) : ∃ w xs, v = .tup (.str w :: xs) ∧ 1 ≤ xs.length ∧ xs.length ≤ 2 ∧ ∀ x ∈ D.str w :: xs, itOk x = true := by
  obtain ⟨w, xs, e, h1, h2, h3, h4⟩ := h
  exact ⟨w, xs, e, h1, h2, fun x hx => (List.mem_cons.mp hx).elim (fun e => by rw [e]; exact h3) (h4 x)⟩
theorem in_menu (w : Str) : ∃ t, ap .isin [.str w, .lst MENU] = some (.bl t) := ⟨inD (.str w) MENU, rfl⟩
abbrev lawB1 : MS := match b_law with
  | .seq _ (.seq _ (.seq (.for_ _ _ b) _)) => b
  | _ => .nil
abbrev lawB2 : MS := match lawB1 with
  | .seq _ (.seq _ (.seq (.for_ _ _ b) _)) => b
  | _ => .nil
abbrev lawB3 : MS := match lawB2 with
  | .seq (.for_ _ _ b) _ => b
  | _ => .nil
/-- the state in a turn -/
def InT (ns : List Int) (nm : D) (r : Env) : Prop := ∃ m s2 s5 s6 s7 a b, r = [.fz (.lst (ns.map .int)), m, s2, .ow (stD a b), .fz nm, s5, s6, s7] ∧ (m = .ow (.lst MENU) ∨ m = .fz (.lst MENU)) ∧ StOk a b
theorem turn3 (ns : List Int) (nm v : D) (hn : NmOk nm) (hv : Val v) (r : Env) (h : InT ns nm r) : ∃ r1 r2, MG.bind (.sl 6) v r = some r1 ∧ Sv P (callN shownD P 11) true lawB3 r1 .nx r2 ∧ InT ns nm r2 := by
  obtain ⟨m, s2, s5, s6, s7, a, b, rfl, hm, st⟩ := h
  obtain ⟨w, xs, rfl, l1, l2, hi⟩ := val_first hv
  have cv := k_check 5 _ (val_good hv)
  obtain ⟨mu, a1, b1, c1, hmu, t1⟩ := k_mut 8 a b (.str w :: xs) st (by rw [List.length_cons]; omega) (by rw [List.length_cons]; omega) hi
  have cm := k_check 5 _ (mut_good hmu)
  obtain ⟨cs, rs, rfl, hc, hr⟩ := hn
  obtain ⟨y, ys, rfl⟩ : ∃ y ys, rs = y :: ys := by
    cases rs with
    | nil => exact absurd rfl hr.1
    | cons y ys => exact ⟨y, ys, rfl⟩
  have hy := nm_tx (hr.2.2 y List.mem_cons_self)
  obtain ⟨mv, a2, b2, c2, hmv, t2⟩ := k_mut 8 a1 b1 [.str "out", y] t1 (Nat.le_of_ble_eq_true rfl) (Nat.le_of_ble_eq_true rfl) fun x hx => by
    rcases List.mem_cons.mp hx with rfl | hx
    · decide +kernel
    · rcases List.mem_cons.mp hx with rfl | hx
      · exact tx_it hy
      · cases hx
  have ey : ap .ix [.lst (y :: ys), .int 0] = some y := by
    show ixD (y :: ys) 0 = _
    unfold ixD
    rw [if_pos (by decide), if_pos (by simp only [List.length_cons]; omega)]
    rfl
  have ew := ix_0 (.str w) xs
  obtain ⟨t, et⟩ := in_menu w
  have eneg : ap .neg [.int 1] = some (.int (-1)) := rfl
  have ecut : ap (.sl false true) [.tup (.str w :: xs), .int (-1)] = some (.tup (cutD (D.str w :: xs) none (some (-1)))) := rfl
  have lA : (cutD (D.str w :: xs) none (some (-1))).length ≤ 3 := Nat.le_trans cut_len (by rw [List.length_cons]; omega)
  have mA : ∀ x ∈ cutD (D.str w :: xs) none (some (-1)), itOk x = true := fun x hz => hi x (cut_mem hz)
  generalize cutD (D.str w :: xs) none (some (-1)) = A at ecut lA mA
  have eadd := add_tup (xs := A) (ys := [mv]) (by rw [List.length_singleton]; omega)
  have cl := k_check 5 _ (last_good (by omega) mA hmv)
  cases t with
  | true =>
    refine ⟨_, _, rfl, ?_, m, s2, s5, .fz (.tup (.str w :: xs)), .fz mv, a2, b2, rfl, hm, t2⟩
    cases hmv <;> rcases hm with rfl | rfl <;> (refine' q_start ?_; repeat' first | ac_rfl)
  | false =>
    refine ⟨_, _, rfl, ?_, m, s2, s5, .fz (.tup (.str w :: xs)), mkSlot mv, a2, b2, rfl, hm, t2⟩
    rcases hm with rfl | rfl <;> (refine' q_start ?_; repeat' first | ac_rfl)
theorem turn2 (ns : List Int) (nm : D) (hn : NmOk nm) (r : Env) (h : InT ns nm r) : ∃ r2, Sv P (callN shownD P 11) true lawB2 r .nx r2 ∧ InT ns nm r2 := by
  obtain ⟨m, s2, s5, s6, s7, a, b, rfl, hm, st⟩ := h
  obtain ⟨w, x, a1, b1, c1, tw, tx, t1⟩ := k_concept 8 a b nm st hn
  obtain ⟨v, a2, b2, c2, hv, t2⟩ := k_axiom 7 a1 b1 nm t1 hn
  have hv1 : Val (.tup [.str w, x]) := val2 (tx_it tw) (tx_it tx)
  obtain ⟨r2, hl, hI⟩ := l_inv (P := P) (cf := callN shownD P 11) (rf := true) (tg := .sl 6) (body := lawB3) (xs := [.tup [.str w, x], v]) (InT ns nm) (fun r y hr hy => by
    rcases List.mem_cons.mp hy with rfl | hy
    · exact turn3 ns nm _ hn hv1 r hr
    · rcases List.mem_cons.mp hy with rfl | hy
      · exact turn3 ns nm _ hn hv r hr
      · cases hy) [.fz (.lst (ns.map .int)), .fz (.lst MENU), s2, .ow (stD a2 b2), .fz nm, s5, s6, s7] ⟨_, _, _, _, _, _, _, rfl, .inr rfl, t2⟩
  refine ⟨r2, ?_, hI⟩
  rcases hm with rfl | rfl
  · refine' q_start (q_seq (q_for (x := .lst [.tup [.str w, x], v]) ?_ rfl hl (q_nil s_nil)))
    repeat' first | ac_rfl
  · refine' q_start (q_seq (q_for (x := .lst [.tup [.str w, x], v]) ?_ rfl hl (q_nil s_nil)))
    repeat' first | ac_rfl
theorem iota_mem : ∀ (n : Nat) (lo : Int) (x : D), x ∈ iota lo n → ∃ j : Int, x = .int j ∧ lo ≤ j ∧ j < lo + n
  | 0, _, _, h => by cases h
  | n + 1, lo, x, h => by
    rcases List.mem_cons.mp h with rfl | h
    · exact ⟨lo, rfl, Int.le_refl _, by omega⟩
    · obtain ⟨j, e, h1, h2⟩ := iota_mem n (lo + 1) x h
      exact ⟨j, e, by omega, by omega⟩
def InK (ns : List Int) (r : Env) : Prop := ∃ m s2 s3 s4 s5 s6 s7, r = [.fz (.lst (ns.map .int)), m, s2, s3, s4, s5, s6, s7] ∧ (m = .ow (.lst MENU) ∨ m = .fz (.lst MENU))
theorem turn1 (ns : List Int) (hl : ns.length ≤ 63) (j : Int) (h0 : 0 ≤ j) (h1 : j ≤ 11) (r : Env) (h : InK ns r) : ∃ r1 r2, MG.bind (.sl 2) (.int j) r = some r1 ∧ Sv P (callN shownD P 11) true lawB1 r1 .nx r2 ∧ InK ns r2 := by
  obtain ⟨m, s2, s3, s4, s5, s6, s7, rfl, hm⟩ := h
  obtain ⟨a, b, c0, t0⟩ := k_stream 10 ns j h0 h1 hl
  obtain ⟨nm, a1, b1, c1, hn, t1⟩ := k_names 9 a b t0
  obtain ⟨r2, hlo, hI⟩ := l_inv (P := P) (cf := callN shownD P 11) (rf := true) (tg := .sl 5) (body := lawB2) (xs := iota 0 6) (InT ns nm) (fun r y hr hy => by
    obtain ⟨m, s2, s5, s6, s7, a, b, rfl, hm, st⟩ := hr
    obtain ⟨r2, q1, q2⟩ := turn2 ns nm hn [.fz (.lst (ns.map .int)), m, s2, .ow (stD a b), .fz nm, .fz y, s6, s7] ⟨_, _, _, _, _, _, _, rfl, hm, st⟩
    exact ⟨_, r2, rfl, q1, q2⟩) [.fz (.lst (ns.map .int)), m, .fz (.int j), .ow (stD a1 b1), .fz nm, s5, s6, s7] ⟨_, _, _, _, _, _, _, rfl, hm, t1⟩
  obtain ⟨cs, rs, rfl, hc, hr⟩ := hn
  refine ⟨_, r2, rfl, ?_, ?_⟩
  · refine' q_start (q_seq (q_asg (d := stD a b) (r1 := [.fz (.lst (ns.map .int)), m, .fz (.int j), s3, s4, s5, s6, s7]) (r2 := [.fz (.lst (ns.map .int)), m, .fz (.int j), .ow (stD a b), s4, s5, s6, s7]) ?_ rfl (q_seq (q_asg (d := .tup [.lst cs, .lst rs]) (r1 := [.fz (.lst (ns.map .int)), m, .fz (.int j), .ow (stD a1 b1), s4, s5, s6, s7]) (r2 := [.fz (.lst (ns.map .int)), m, .fz (.int j), .ow (stD a1 b1), .fz (.tup [.lst cs, .lst rs]), s5, s6, s7]) ?_ rfl (q_seq (q_for (x := .lst (iota 0 6)) ?_ rfl hlo (q_nil s_nil)))))))
    repeat' first | ac_rfl
    repeat' first | ac_rfl
    repeat' first | ac_rfl
  · obtain ⟨m, s2, s5, s6, s7, a, b, rfl, hm, st⟩ := hI
    exact ⟨_, _, _, _, _, _, _, rfl, hm⟩
theorem good_law (ns : List Int) (hl : ns.length ≤ 63) : Kv (callN shownD P 12) 17 [.lst (ns.map .int)] (.bl true) [] := by
  have cF := k_fixed 10
  obtain ⟨r', hc, x6, rfl⟩ := c_map (P := P) (cf := callN shownD P 11) (own := [6]) (tg := .sl 6) (cc := .op .not_ (.cons (.call 14 [] (.cons (.cap 6) .nil)) .nil)) (e := .cap 6) (xs := fixL) (fun _ => false) id
    (fun r => ∃ x, r = [.fz (.lst (ns.map .int)), .un, .un, .un, .un, .un, x, .un]) (by
      rintro r x ⟨y, rfl⟩ hx
      have ck := k_check 5 x (fix_good x hx)
      exact ⟨_, _, _, rfl, e_op (e_cons (e_call (e_cons (e_cap rfl) e_nil) rfl ck rfl) e_nil) rfl rfl, rfl, fun z => (by cases z), fun _ => ⟨_, rfl⟩⟩) [] [.fz (.lst (ns.map .int)), .un, .un, .un, .un, .un, .un, .un] ⟨_, rfl⟩ (by
      simp only [List.length_nil, Nat.zero_add]
      exact Nat.le_trans fix_len (by decide))
  have e0 : [] ++ (fixL.filter fun _ => false).map id = ([] : List D) := by
    rw [List.filter_eq_nil_iff.mpr fun _ _ => Bool.false_ne_true]
    rfl
  rw [e0] at hc
  have el : ap .len [.lst (ns.map .int)] = some (.int ns.length) := by
    show some (D.int ((ns.map D.int).length : Nat)) = _
    rw [List.length_map]
  have em1 : ap .min2 [.int 12, .int ns.length] = some (.int (if (ns.length : Int) < 12 then ns.length else 12)) := rfl
  have hz : 0 ≤ (if (ns.length : Int) < 12 then (ns.length : Int) else 12) ∧ (if (ns.length : Int) < 12 then (ns.length : Int) else 12) ≤ 12 := by split <;> omega
  generalize (if (ns.length : Int) < 12 then (ns.length : Int) else 12) = z at em1 hz
  have em2 : ap .max2 [.int 1, .int z] = some (.int (if z > 1 then z else 1)) := rfl
  have hy : 1 ≤ (if z > 1 then z else 1) ∧ (if z > 1 then z else 1) ≤ 12 := by split <;> omega
  generalize (if z > 1 then z else 1) = y at em2 hy
  have er : ap .range1 [.int y] = some (.lst (iota 0 y.toNat)) := by
    show (if rngOk y then some (D.lst (iota 0 y.toNat)) else none) = _
    rw [if_pos]
    unfold rngOk
    rw [Bool.and_eq_true]
    exact ⟨decide_eq_true (by omega), decide_eq_true (by omega)⟩
  obtain ⟨r2, hlo, m, s2, s3, s4, s5, s6, s7, rfl, hm⟩ := l_inv (P := P) (cf := callN shownD P 11) (rf := true) (tg := .sl 2) (body := lawB1) (xs := iota 0 y.toNat) (InK ns) (fun r x hr hx => by
    obtain ⟨j, rfl, j0, j1⟩ := iota_mem _ _ _ hx
    exact turn1 ns hl j j0 (by omega) r hr) [.fz (.lst (ns.map .int)), .ow (.lst MENU), .un, .un, .un, .un, .un, .un] ⟨_, _, _, _, _, _, _, rfl, .inl rfl⟩
  refine' call_ok (fd := f_law) rfl rfl (q_start (q_seq (q_if (u := false) (r1 := [.fz (.lst (ns.map .int)), .un, .un, .un, .un, .un, .un, .un]) ?_ (cp_f (q_nil (q_seq (q_asg (d := .lst MENU) (r1 := [.fz (.lst (ns.map .int)), .un, .un, .un, .un, .un, .un, .un]) (r2 := [.fz (.lst (ns.map .int)), .ow (.lst MENU), .un, .un, .un, .un, .un, .un]) ?_ rfl (q_seq (q_for (x := .lst (iota 0 y.toNat)) ?_ rfl hlo (q_seq (q_ret e_kst rfl rfl))))))))))) rfl
  repeat' first | ac_rfl
  repeat' first | ac_rfl
  repeat' first | ac_rfl
theorem law_good (ns : List Int) (hn : ns.length ≤ 63) : ∃ outs, callN shownD P 12 17 [.lst (ns.map .int)] = .ok (.bl true) outs := ⟨[], (good_law ns hn).h⟩
theorem top_mk {K : PySem.W.Frag} {h : Heap} {mg : Str → Option Value} (X : K.In h) (G : h.Ns mainGlobals mg)
    {f0 : Addr} {oc0 kV0 dc0 pm0 cd0 ct0 : Value} {od0 an0 : Option Addr} {sl0 : Array (Option Value)}
    (a0 : PySem.W.nsIn K mainGlobals "is_string_of" = some (some (.ref f0))) (l0 : K.lookup f0 = some ⟨oc0, od0, .func (PySem.W.fnOf "is_string_of" "is_string_of" (defArgs (topS 6)) (defBody (topS 6)) (defScope (topS 6)) .none kV0 dc0 pm0 an0 cd0 ct0), sl0⟩) (c0 : PySem.W.codeIn K cd0 "is_string_of" = true) (k0 : PySem.W.keepIn K (.ref f0) = true)
    {f1 : Addr} {oc1 kV1 dc1 pm1 cd1 ct1 : Value} {od1 an1 : Option Addr} {sl1 : Array (Option Value)}
    (a1 : PySem.W.nsIn K mainGlobals "is_word" = some (some (.ref f1))) (l1 : K.lookup f1 = some ⟨oc1, od1, .func (PySem.W.fnOf "is_word" "is_word" (defArgs (topS 7)) (defBody (topS 7)) (defScope (topS 7)) .none kV1 dc1 pm1 an1 cd1 ct1), sl1⟩) (c1 : PySem.W.codeIn K cd1 "is_word" = true) (k1 : PySem.W.keepIn K (.ref f1) = true)
    {f2 : Addr} {oc2 kV2 dc2 pm2 cd2 ct2 : Value} {od2 an2 : Option Addr} {sl2 : Array (Option Value)}
    (a2 : PySem.W.nsIn K mainGlobals "is_direction" = some (some (.ref f2))) (l2 : K.lookup f2 = some ⟨oc2, od2, .func (PySem.W.fnOf "is_direction" "is_direction" (defArgs (topS 8)) (defBody (topS 8)) (defScope (topS 8)) .none kV2 dc2 pm2 an2 cd2 ct2), sl2⟩) (c2 : PySem.W.codeIn K cd2 "is_direction" = true) (k2 : PySem.W.keepIn K (.ref f2) = true)
    {f3 : Addr} {oc3 kV3 dc3 pm3 cd3 ct3 : Value} {od3 an3 : Option Addr} {sl3 : Array (Option Value)}
    (a3 : PySem.W.nsIn K mainGlobals "is_concept" = some (some (.ref f3))) (l3 : K.lookup f3 = some ⟨oc3, od3, .func (PySem.W.fnOf "is_concept" "is_concept" (defArgs (topS 9)) (defBody (topS 9)) (defScope (topS 9)) .none kV3 dc3 pm3 an3 cd3 ct3), sl3⟩) (c3 : PySem.W.codeIn K cd3 "is_concept" = true) (k3 : PySem.W.keepIn K (.ref f3) = true)
    {f4 : Addr} {oc4 kV4 dc4 pm4 cd4 ct4 : Value} {od4 an4 : Option Addr} {sl4 : Array (Option Value)}
    (a4 : PySem.W.nsIn K mainGlobals "is_axiom" = some (some (.ref f4))) (l4 : K.lookup f4 = some ⟨oc4, od4, .func (PySem.W.fnOf "is_axiom" "is_axiom" (defArgs (topS 10)) (defBody (topS 10)) (defScope (topS 10)) .none kV4 dc4 pm4 an4 cd4 ct4), sl4⟩) (c4 : PySem.W.codeIn K cd4 "is_axiom" = true) (k4 : PySem.W.keepIn K (.ref f4) = true)
    {f5 : Addr} {oc5 kV5 dc5 pm5 cd5 ct5 : Value} {od5 an5 : Option Addr} {sl5 : Array (Option Value)}
    (a5 : PySem.W.nsIn K mainGlobals "_law_stream" = some (some (.ref f5))) (l5 : K.lookup f5 = some ⟨oc5, od5, .func (PySem.W.fnOf "_law_stream" "_law_stream" (defArgs (topS 12)) (defBody (topS 12)) (defScope (topS 12)) .none kV5 dc5 pm5 an5 cd5 ct5), sl5⟩) (c5 : PySem.W.codeIn K cd5 "_law_stream" = true) (k5 : PySem.W.keepIn K (.ref f5) = true)
    {f6 : Addr} {oc6 kV6 dc6 pm6 cd6 ct6 : Value} {od6 an6 : Option Addr} {sl6 : Array (Option Value)}
    (a6 : PySem.W.nsIn K mainGlobals "_law_draw" = some (some (.ref f6))) (l6 : K.lookup f6 = some ⟨oc6, od6, .func (PySem.W.fnOf "_law_draw" "_law_draw" (defArgs (topS 13)) (defBody (topS 13)) (defScope (topS 13)) .none kV6 dc6 pm6 an6 cd6 ct6), sl6⟩) (c6 : PySem.W.codeIn K cd6 "_law_draw" = true) (k6 : PySem.W.keepIn K (.ref f6) = true)
    {f7 : Addr} {oc7 kV7 dc7 pm7 cd7 ct7 : Value} {od7 an7 : Option Addr} {sl7 : Array (Option Value)}
    (a7 : PySem.W.nsIn K mainGlobals "_law_choose" = some (some (.ref f7))) (l7 : K.lookup f7 = some ⟨oc7, od7, .func (PySem.W.fnOf "_law_choose" "_law_choose" (defArgs (topS 14)) (defBody (topS 14)) (defScope (topS 14)) .none kV7 dc7 pm7 an7 cd7 ct7), sl7⟩) (c7 : PySem.W.codeIn K cd7 "_law_choose" = true) (k7 : PySem.W.keepIn K (.ref f7) = true)
    {f8 : Addr} {oc8 kV8 dc8 pm8 cd8 ct8 : Value} {od8 an8 : Option Addr} {sl8 : Array (Option Value)}
    (a8 : PySem.W.nsIn K mainGlobals "_law_names" = some (some (.ref f8))) (l8 : K.lookup f8 = some ⟨oc8, od8, .func (PySem.W.fnOf "_law_names" "_law_names" (defArgs (topS 15)) (defBody (topS 15)) (defScope (topS 15)) .none kV8 dc8 pm8 an8 cd8 ct8), sl8⟩) (c8 : PySem.W.codeIn K cd8 "_law_names" = true) (k8 : PySem.W.keepIn K (.ref f8) = true)
    {f9 : Addr} {oc9 kV9 dc9 pm9 cd9 ct9 : Value} {od9 an9 : Option Addr} {sl9 : Array (Option Value)}
    (a9 : PySem.W.nsIn K mainGlobals "_law_concept" = some (some (.ref f9))) (l9 : K.lookup f9 = some ⟨oc9, od9, .func (PySem.W.fnOf "_law_concept" "_law_concept" (defArgs (topS 16)) (defBody (topS 16)) (defScope (topS 16)) .none kV9 dc9 pm9 an9 cd9 ct9), sl9⟩) (c9 : PySem.W.codeIn K cd9 "_law_concept" = true) (k9 : PySem.W.keepIn K (.ref f9) = true)
    {f10 : Addr} {oc10 kV10 dc10 pm10 cd10 ct10 : Value} {od10 an10 : Option Addr} {sl10 : Array (Option Value)}
    (a10 : PySem.W.nsIn K mainGlobals "_law_axiom" = some (some (.ref f10))) (l10 : K.lookup f10 = some ⟨oc10, od10, .func (PySem.W.fnOf "_law_axiom" "_law_axiom" (defArgs (topS 17)) (defBody (topS 17)) (defScope (topS 17)) .none kV10 dc10 pm10 an10 cd10 ct10), sl10⟩) (c10 : PySem.W.codeIn K cd10 "_law_axiom" = true) (k10 : PySem.W.keepIn K (.ref f10) = true)
    {f11 : Addr} {oc11 kV11 dc11 pm11 cd11 ct11 : Value} {od11 an11 : Option Addr} {sl11 : Array (Option Value)}
    (a11 : PySem.W.nsIn K mainGlobals "_law_is_word" = some (some (.ref f11))) (l11 : K.lookup f11 = some ⟨oc11, od11, .func (PySem.W.fnOf "_law_is_word" "_law_is_word" (defArgs (topS 20)) (defBody (topS 20)) (defScope (topS 20)) .none kV11 dc11 pm11 an11 cd11 ct11), sl11⟩) (c11 : PySem.W.codeIn K cd11 "_law_is_word" = true) (k11 : PySem.W.keepIn K (.ref f11) = true)
    {f12 : Addr} {oc12 kV12 dc12 pm12 cd12 ct12 : Value} {od12 an12 : Option Addr} {sl12 : Array (Option Value)}
    (a12 : PySem.W.nsIn K mainGlobals "_law_concept_ok" = some (some (.ref f12))) (l12 : K.lookup f12 = some ⟨oc12, od12, .func (PySem.W.fnOf "_law_concept_ok" "_law_concept_ok" (defArgs (topS 21)) (defBody (topS 21)) (defScope (topS 21)) .none kV12 dc12 pm12 an12 cd12 ct12), sl12⟩) (c12 : PySem.W.codeIn K cd12 "_law_concept_ok" = true) (k12 : PySem.W.keepIn K (.ref f12) = true)
    {f13 : Addr} {oc13 kV13 dc13 pm13 cd13 ct13 : Value} {od13 an13 : Option Addr} {sl13 : Array (Option Value)}
    (a13 : PySem.W.nsIn K mainGlobals "_law_axiom_ok" = some (some (.ref f13))) (l13 : K.lookup f13 = some ⟨oc13, od13, .func (PySem.W.fnOf "_law_axiom_ok" "_law_axiom_ok" (defArgs (topS 22)) (defBody (topS 22)) (defScope (topS 22)) .none kV13 dc13 pm13 an13 cd13 ct13), sl13⟩) (c13 : PySem.W.codeIn K cd13 "_law_axiom_ok" = true) (k13 : PySem.W.keepIn K (.ref f13) = true)
    {f14 : Addr} {oc14 kV14 dc14 pm14 cd14 ct14 : Value} {od14 an14 : Option Addr} {sl14 : Array (Option Value)}
    (a14 : PySem.W.nsIn K mainGlobals "_law_check" = some (some (.ref f14))) (l14 : K.lookup f14 = some ⟨oc14, od14, .func (PySem.W.fnOf "_law_check" "_law_check" (defArgs (topS 23)) (defBody (topS 23)) (defScope (topS 23)) .none kV14 dc14 pm14 an14 cd14 ct14), sl14⟩) (c14 : PySem.W.codeIn K cd14 "_law_check" = true) (k14 : PySem.W.keepIn K (.ref f14) = true)
    {f15 : Addr} {oc15 kV15 dc15 pm15 cd15 ct15 : Value} {od15 an15 : Option Addr} {sl15 : Array (Option Value)}
    (a15 : PySem.W.nsIn K mainGlobals "_law_fixed" = some (some (.ref f15))) (l15 : K.lookup f15 = some ⟨oc15, od15, .func (PySem.W.fnOf "_law_fixed" "_law_fixed" (defArgs (topS 24)) (defBody (topS 24)) (defScope (topS 24)) .none kV15 dc15 pm15 an15 cd15 ct15), sl15⟩) (c15 : PySem.W.codeIn K cd15 "_law_fixed" = true) (k15 : PySem.W.keepIn K (.ref f15) = true)
    {f16 : Addr} {oc16 kV16 dc16 pm16 cd16 ct16 : Value} {od16 an16 : Option Addr} {sl16 : Array (Option Value)}
    (a16 : PySem.W.nsIn K mainGlobals "_law_mutated" = some (some (.ref f16))) (l16 : K.lookup f16 = some ⟨oc16, od16, .func (PySem.W.fnOf "_law_mutated" "_law_mutated" (defArgs (topS 25)) (defBody (topS 25)) (defScope (topS 25)) .none kV16 dc16 pm16 an16 cd16 ct16), sl16⟩) (c16 : PySem.W.codeIn K cd16 "_law_mutated" = true) (k16 : PySem.W.keepIn K (.ref f16) = true)
    {f17 : Addr} {oc17 kV17 dc17 pm17 cd17 ct17 : Value} {od17 an17 : Option Addr} {sl17 : Array (Option Value)}
    (a17 : PySem.W.nsIn K mainGlobals "law" = some (some (.ref f17))) (l17 : K.lookup f17 = some ⟨oc17, od17, .func (PySem.W.fnOf "law" "law" (defArgs (topS 26)) (defBody (topS 26)) (defScope (topS 26)) .none kV17 dc17 pm17 an17 cd17 ct17), sl17⟩) (c17 : PySem.W.codeIn K cd17 "law" = true) (k17 : PySem.W.keepIn K (.ref f17) = true)
    (z0 : PySem.W.nsIn K mainGlobals "isinstance" = some none)
    (z1 : PySem.W.nsIn K mainGlobals "str" = some none)
    (z2 : PySem.W.nsIn K mainGlobals "tuple" = some none)
    (z3 : PySem.W.nsIn K mainGlobals "list" = some none)
    (z4 : PySem.W.nsIn K mainGlobals "int" = some none)
    (z5 : PySem.W.nsIn K mainGlobals "bool" = some none)
    (z6 : PySem.W.nsIn K mainGlobals "dict" = some none)
    (z7 : PySem.W.nsIn K mainGlobals "len" = some none)
    (z8 : PySem.W.nsIn K mainGlobals "all" = some none)
    (z9 : PySem.W.nsIn K mainGlobals "any" = some none)
    (z10 : PySem.W.nsIn K mainGlobals "max" = some none)
    (z11 : PySem.W.nsIn K mainGlobals "min" = some none)
    (z12 : PySem.W.nsIn K mainGlobals "repr" = some none)
    (z13 : PySem.W.nsIn K mainGlobals "range" = some none)
    (z14 : PySem.W.nsIn K mainGlobals "enumerate" = some none)
    (z15 : PySem.W.nsIn K mainGlobals "sorted" = some none)
    (z16 : PySem.W.nsIn K mainGlobals "set" = some none)
    (z17 : PySem.W.nsIn K mainGlobals "zip" = some none)
    (z18 : PySem.W.nsIn K mainGlobals "sum" = some none)
    {gt0 : Tok} (gq0 : PySem.W.nsIn K mainGlobals "MAX_LENGTH" = some (some (.int 8 gt0)))
    {gt1 : Tok} (gq1 : PySem.W.nsIn K mainGlobals "LETTERS" = some (some (.str "abcdefghijklmnopqrstuvwxyz" gt1)))
    {ga2 : Addr} {go2 : Option Addr} {gm2 : Nat} {gs2 : Array (Option Value)} {gu2_0 gu2_1 : Tok} (gq2 : PySem.W.nsIn K mainGlobals "DIRECTION_WORDS" = some (some (.ref ga2))) (glq2 : K.lookup ga2 = some ⟨.type "tuple", go2, .seq #[.str "out" gu2_0, .str "in" gu2_1] gm2, gs2⟩)
    {ga3 : Addr} {go3 : Option Addr} {gm3 : Nat} {gs3 : Array (Option Value)} {gu3_0 gu3_1 gu3_2 gu3_3 : Tok} (gq3 : PySem.W.nsIn K mainGlobals "ROLE_AXIOMS" = some (some (.ref ga3))) (glq3 : K.lookup ga3 = some ⟨.type "tuple", go3, .seq #[.str "subrole" gu3_0, .str "subrole_inverse" gu3_1, .str "disjoint_roles" gu3_2, .str "disjoint_inverse" gu3_3] gm3, gs3⟩)
    {ga4 : Addr} {go4 : Option Addr} {gm4 : Nat} {gs4 : Array (Option Value)} {gu4_0 gu4_1 : Tok} (gq4 : PySem.W.nsIn K mainGlobals "CONCEPT_AXIOMS" = some (some (.ref ga4))) (glq4 : K.lookup ga4 = some ⟨.type "tuple", go4, .seq #[.str "subclass" gu4_0, .str "disjoint" gu4_1] gm4, gs4⟩)
    : (∃ l, AllAt K mg tdefs l) ∧ (∀ x ∈ bnames, mg x = none) ∧ ∀ (i : Nat) (x : Str) (d : D), P.gt[i]? = some (x, d) → ∃ (u : Value) (v : V), mg x = some u ∧ RelV v u ∧ ∀ G, RV K G d v := by
  refine ⟨?_, ?_, ?_⟩
  · exact ⟨[(_, _), (_, _), (_, _), (_, _), (_, _), (_, _), (_, _), (_, _), (_, _), (_, _), (_, _), (_, _), (_, _), (_, _), (_, _), (_, _), (_, _), (_, _)], ⟨_, _, _, rfl, at_mk X G (fun _ _ _ _ _ _ us hl => match us, hl with | [_, _], _ => rfl) a0 l0 c0 k0, ⟨_, _, _, rfl, at_mk X G (fun _ _ _ _ _ _ us hl => match us, hl with | [_], _ => rfl) a1 l1 c1 k1, ⟨_, _, _, rfl, at_mk X G (fun _ _ _ _ _ _ us hl => match us, hl with | [_], _ => rfl) a2 l2 c2 k2, ⟨_, _, _, rfl, at_mk X G (fun _ _ _ _ _ _ us hl => match us, hl with | [_], _ => rfl) a3 l3 c3 k3, ⟨_, _, _, rfl, at_mk X G (fun _ _ _ _ _ _ us hl => match us, hl with | [_], _ => rfl) a4 l4 c4 k4, ⟨_, _, _, rfl, at_mk X G (fun _ _ _ _ _ _ us hl => match us, hl with | [_, _], _ => rfl) a5 l5 c5 k5, ⟨_, _, _, rfl, at_mk X G (fun _ _ _ _ _ _ us hl => match us, hl with | [_, _], _ => rfl) a6 l6 c6 k6, ⟨_, _, _, rfl, at_mk X G (fun _ _ _ _ _ _ us hl => match us, hl with | [_, _], _ => rfl) a7 l7 c7 k7, ⟨_, _, _, rfl, at_mk X G (fun _ _ _ _ _ _ us hl => match us, hl with | [_], _ => rfl) a8 l8 c8 k8, ⟨_, _, _, rfl, at_mk X G (fun _ _ _ _ _ _ us hl => match us, hl with | [_, _], _ => rfl) a9 l9 c9 k9, ⟨_, _, _, rfl, at_mk X G (fun _ _ _ _ _ _ us hl => match us, hl with | [_, _, _], _ => rfl) a10 l10 c10 k10, ⟨_, _, _, rfl, at_mk X G (fun _ _ _ _ _ _ us hl => match us, hl with | [_], _ => rfl) a11 l11 c11 k11, ⟨_, _, _, rfl, at_mk X G (fun _ _ _ _ _ _ us hl => match us, hl with | [_], _ => rfl) a12 l12 c12 k12, ⟨_, _, _, rfl, at_mk X G (fun _ _ _ _ _ _ us hl => match us, hl with | [_], _ => rfl) a13 l13 c13 k13, ⟨_, _, _, rfl, at_mk X G (fun _ _ _ _ _ _ us hl => match us, hl with | [_], _ => rfl) a14 l14 c14 k14, ⟨_, _, _, rfl, at_mk X G (fun _ _ _ _ _ _ us hl => match us, hl with | [], _ => rfl) a15 l15 c15 k15, ⟨_, _, _, rfl, at_mk X G (fun _ _ _ _ _ _ us hl => match us, hl with | [_, _], _ => rfl) a16 l16 c16 k16, ⟨_, _, _, rfl, at_mk X G (fun _ _ _ _ _ _ us hl => match us, hl with | [_], _ => rfl) a17 l17 c17 k17, rfl⟩⟩⟩⟩⟩⟩⟩⟩⟩⟩⟩⟩⟩⟩⟩⟩⟩⟩⟩
  · intro x hx
    simp only [bnames, List.mem_cons, List.not_mem_nil, or_false] at hx
    rcases hx with rfl | rfl | rfl | rfl | rfl | rfl | rfl | rfl | rfl | rfl | rfl | rfl | rfl | rfl | rfl | rfl | rfl | rfl | rfl
    · exact PySem.W.mg_none_of X G z0
    · exact PySem.W.mg_none_of X G z1
    · exact PySem.W.mg_none_of X G z2
    · exact PySem.W.mg_none_of X G z3
    · exact PySem.W.mg_none_of X G z4
    · exact PySem.W.mg_none_of X G z5
    · exact PySem.W.mg_none_of X G z6
    · exact PySem.W.mg_none_of X G z7
    · exact PySem.W.mg_none_of X G z8
    · exact PySem.W.mg_none_of X G z9
    · exact PySem.W.mg_none_of X G z10
    · exact PySem.W.mg_none_of X G z11
    · exact PySem.W.mg_none_of X G z12
    · exact PySem.W.mg_none_of X G z13
    · exact PySem.W.mg_none_of X G z14
    · exact PySem.W.mg_none_of X G z15
    · exact PySem.W.mg_none_of X G z16
    · exact PySem.W.mg_none_of X G z17
    · exact PySem.W.mg_none_of X G z18
  · intro i x d e
    cases i with
    | zero =>
      cases e
      exact gl_int X G gq0
    | succ i =>
    have e : (P.gt.drop 1)[i]? = some (x, d) := e
    cases i with
    | zero =>
      cases e
      exact gl_str X G gq1
    | succ i =>
    have e : (P.gt.drop 2)[i]? = some (x, d) := e
    cases i with
    | zero =>
      cases e
      exact gl_tup (ss := ["out", "in"]) (its := [.str "out" gu2_0, .str "in" gu2_1]) X G gq2 glq2 rfl (Nat.le_of_ble_eq_true rfl)
    | succ i =>
    have e : (P.gt.drop 3)[i]? = some (x, d) := e
    cases i with
    | zero =>
      cases e
      exact gl_tup (ss := ["subrole", "subrole_inverse", "disjoint_roles", "disjoint_inverse"]) (its := [.str "subrole" gu3_0, .str "subrole_inverse" gu3_1, .str "disjoint_roles" gu3_2, .str "disjoint_inverse" gu3_3]) X G gq3 glq3 rfl (Nat.le_of_ble_eq_true rfl)
    | succ i =>
    have e : (P.gt.drop 4)[i]? = some (x, d) := e
    cases i with
    | zero =>
      cases e
      exact gl_tup (ss := ["subclass", "disjoint"]) (its := [.str "subclass" gu4_0, .str "disjoint" gu4_1]) X G gq4 glq4 rfl (Nat.le_of_ble_eq_true rfl)
    | succ i =>
    have e : (P.gt.drop 5)[i]? = some (x, d) := e
    cases e
theorem chk_all : chkAll P FN tdefs = true := by decide +kernel
theorem law_at {Pg : Program} {w : World} {K : PySem.W.Frag} {h : Heap} {mg : Str → Option Value} {fa : Addr} (X : K.In h) (G : h.Ns mainGlobals mg) (named : mg "law" = some (.ref fa)) (T : (∃ l, AllAt K mg tdefs l) ∧ (∀ x ∈ bnames, mg x = none) ∧ ∀ (i : Nat) (x : Str) (d : D), P.gt[i]? = some (x, d) → ∃ (u : Value) (v : V), mg x = some u ∧ RelV v u ∧ ∀ G, RV K G d v) :
    ∃ (fd : FuncData) (c : Cfg), c.K = K ∧ Binds K fd ["script"] [] ∧ ∀ base : Heap, K.In base → base.Ns mainGlobals mg → FnG Pg w K mg base (L2.CX Pg w) 12 fa fd ["script"] (spG c [false] f_law.rf (callN shownD P 12 17)) := by
  obtain ⟨⟨l, hl⟩, bt, gl⟩ := T
  exact law_F (iL := 17) (tL := t_law) (fdL := f_law) hl chk_all bt gl rfl rfl rfl rfl named
end VL.Claim
open PySem PySem.W PyProof.Rows
set_option maxHeartbeats 0 in
theorem PySem.Challenge.cw_factsandfar_k01_concepts_and_axioms_holds : PySem.Challenge.rw_factsandfar_k01_concepts_and_axioms.Holds := by
  w_on; o_law; k_head; (case hw => w_witness2)
  k_fill
  refine VL.law_walk (l := PySem.Challenge.rw_factsandfar_k01_concepts_and_axioms) (n := 63) (k := 12) (x := "script") (rf := VL.Claim.f_law.rf) (run := VL.callN VL.shownD VL.Claim.P 12 17) rfl (by decide) rfl ⟨rfl, by decide, by decide⟩ (fun w h Y => PySem.W.kIn_of Y) ?F (fun ns hn => VL.Claim.law_good ns hn)
  case F =>
    intro w mg fa h KX G hmg
    refine VL.Claim.law_at KX G hmg ?T
    refine' VL.Claim.top_mk KX G ?a0 ?l0 ?c0 ?k0 ?a1 ?l1 ?c1 ?k1 ?a2 ?l2 ?c2 ?k2 ?a3 ?l3 ?c3 ?k3 ?a4 ?l4 ?c4 ?k4 ?a5 ?l5 ?c5 ?k5 ?a6 ?l6 ?c6 ?k6 ?a7 ?l7 ?c7 ?k7 ?a8 ?l8 ?c8 ?k8 ?a9 ?l9 ?c9 ?k9 ?a10 ?l10 ?c10 ?k10 ?a11 ?l11 ?c11 ?k11 ?a12 ?l12 ?c12 ?k12 ?a13 ?l13 ?c13 ?k13 ?a14 ?l14 ?c14 ?k14 ?a15 ?l15 ?c15 ?k15 ?a16 ?l16 ?c16 ?k16 ?a17 ?l17 ?c17 ?k17 ?z0 ?z1 ?z2 ?z3 ?z4 ?z5 ?z6 ?z7 ?z8 ?z9 ?z10 ?z11 ?z12 ?z13 ?z14 ?z15 ?z16 ?z17 ?z18 ?gq0 ?gq1 ?gq2 ?glq2 ?gq3 ?glq3 ?gq4 ?glq4
    case a0 => k_is
    case l0 => k_is
    case c0 => k_is
    case k0 => k_is
    case a1 => k_is
    case l1 => k_is
    case c1 => k_is
    case k1 => k_is
    case a2 => k_is
    case l2 => k_is
    case c2 => k_is
    case k2 => k_is
    case a3 => k_is
    case l3 => k_is
    case c3 => k_is
    case k3 => k_is
    case a4 => k_is
    case l4 => k_is
    case c4 => k_is
    case k4 => k_is
    case a5 => k_is
    case l5 => k_is
    case c5 => k_is
    case k5 => k_is
    case a6 => k_is
    case l6 => k_is
    case c6 => k_is
    case k6 => k_is
    case a7 => k_is
    case l7 => k_is
    case c7 => k_is
    case k7 => k_is
    case a8 => k_is
    case l8 => k_is
    case c8 => k_is
    case k8 => k_is
    case a9 => k_is
    case l9 => k_is
    case c9 => k_is
    case k9 => k_is
    case a10 => k_is
    case l10 => k_is
    case c10 => k_is
    case k10 => k_is
    case a11 => k_is
    case l11 => k_is
    case c11 => k_is
    case k11 => k_is
    case a12 => k_is
    case l12 => k_is
    case c12 => k_is
    case k12 => k_is
    case a13 => k_is
    case l13 => k_is
    case c13 => k_is
    case k13 => k_is
    case a14 => k_is
    case l14 => k_is
    case c14 => k_is
    case k14 => k_is
    case a15 => k_is
    case l15 => k_is
    case c15 => k_is
    case k15 => k_is
    case a16 => k_is
    case l16 => k_is
    case c16 => k_is
    case k16 => k_is
    case a17 => k_is
    case l17 => k_is
    case c17 => k_is
    case k17 => k_is
    case z0 => k_is
    case z1 => k_is
    case z2 => k_is
    case z3 => k_is
    case z4 => k_is
    case z5 => k_is
    case z6 => k_is
    case z7 => k_is
    case z8 => k_is
    case z9 => k_is
    case z10 => k_is
    case z11 => k_is
    case z12 => k_is
    case z13 => k_is
    case z14 => k_is
    case z15 => k_is
    case z16 => k_is
    case z17 => k_is
    case z18 => k_is
    case gq0 => k_is
    case gq1 => k_is
    case gq2 => k_is
    case glq2 => k_is
    case gq3 => k_is
    case glq3 => k_is
    case gq4 => k_is
    case glq4 => k_is
