import PyProof.Rows.All
import Wide.All
import OpenK.AllK
import Wide.FinOn
import HandS.ForMost
import KE.DataEq
import HandS.Exc
import HandS.Walk
import HandS.Deep
import KE.DataFind
import HandS.IsInst
import HandS.TupAny
import HandS.TupMul
import HandS.Style
import HandS.Codes
import KE.KTupSum
import HandS.CallLocal
import HandS.TryOnly
import HandS.Words
import HandS.Zip
import KE.GoesNew
import HandS.Flow
import HandS.Defaults
import HandS.HeadEnd
import HandS.Head0
import HandS.Head1
import HandS.Head2
import HandS.HeadHook1
import HandS.HeadHook2
import PySem.Challenge.RW_waysback_k01_whole_even_systems
section
set_option Elab.async false
set_option linter.all false
set_option maxRecDepth 100000
/-! Z1: pure values, a small resolved syntax, and its interpreter. -/
namespace Z
open PySem

/-- values without a heap -/
inductive PV where
  | non | bl (b : Bool) | int (i : Int) | str (s : Str)
  | tup (l : List PV) | lst (l : List PV)
  | dic (l : List (PV × PV))
  | fn (k : Nat) | cell (k : Nat) | scr (l : List Int)
  deriving Inhabited

abbrev LIM : Nat := 16777216

/-! ### equality of data -/
mutual
def PV.eqv : PV → PV → Bool
  | .non, .non => true
  | .bl a, .bl b => a == b
  | .bl a, .int j => (if a then (1 : Int) else 0) == j
  | .int i, .bl b => i == (if b then (1 : Int) else 0)
  | .int i, .int j => i == j
  | .str x, .str y => x == y
  | .lst xs, .lst ys => PV.eqvs xs ys
  | .tup xs, .tup ys => PV.eqvs xs ys
  | _, _ => false
def PV.eqvs : List PV → List PV → Bool
  | [], [] => true
  | x :: xs, y :: ys => PV.eqv x y && PV.eqvs xs ys
  | _, _ => false
end
/-- data without dicts, defs and cells, nested at most so deep -/
def PV.okd : Nat → PV → Bool
  | _, .non => true
  | _, .bl _ => true
  | _, .int _ => true
  | _, .str _ => true
  | n + 1, .tup l => l.all (PV.okd n)
  | n + 1, .lst l => l.all (PV.okd n)
  | _, _ => false
abbrev DEEP : Nat := 40
def eqV (a b : PV) : Option Bool := if a.okd DEEP && b.okd DEEP then some (a.eqv b) else none

/-! ### syntax -/
inductive BOp where
  | add | sub | mul | fdiv | mod | pow | shl | shr | band | bor | bxor
  deriving DecidableEq
inductive COp where
  | eq | ne | lt | le | gt | ge | inn | nin
  deriving DecidableEq
/-- built-in functions of values -/
inductive Bi where
  | len | sum | all | any | abs | max | min | sorted | list | tuple | int | str
  deriving DecidableEq
inductive Ty where
  | int | bool | str | tuple | list
  deriving DecidableEq
/-- pure methods -/
inductive Mt where
  | index | count
  deriving DecidableEq
inductive T where
  | nm (i : Nat) | tp (l : List T)
mutual
inductive E where
  | var (i : Nat) | pk (i : Nat) | cst (c : PV) | gv (k : Nat)
  | bin (o : BOp) (a b : E) | neg (a : E) | not (a : E) | and (a b : E) | or (a b : E)
  | cmp (o : COp) (a b : E) | isN (a : E) | isNN (a : E) | chain (o o' : COp) (a b c : E)
  | ite (c a b : E) | call (f : Nat) (l : List E) | callv (i : Nat) (l : List E) | gf (k : Nat) | bi (b : Bi) (a : E) | isi (t : Ty) (a : E)
  | mt (m : Mt) (r a : E)
  | idx (a i : E) | sl (a : E) (lo hi : Option E) | rev (a : E)
  | tup (l : List E) | lst (l : List E)
  | comp (e : E) (t : T) (it : It) (c : Option E) (own : List Nat)
  | comp2 (e : E) (t : T) (it : It) (c : Option E) (t' : T) (it' : It) (c' : Option E) (own own' : List Nat)
inductive It where
  | seq (e : E) | rng1 (a : E) | rng2 (a b : E) | rng3 (a b c : E) | zip (a b : E) | enum (a : E)
end
inductive S where
  | set (own : Bool) (i : Nat) (e : E)
  | unp (t : T) (e : E)
  | par (sw : Bool) (l : List (Bool × Nat × E))
  | sub (i : Nat) (x e : E)
  | app (i : Nat) (e : E)
  | rem (i : Nat) (e : E)
  | ex (e : E)
  | ret (e : E) | rto (i : Nat) | retN
  | ite (c : E) (a b : List S)
  | for (t : T) (it : It) (b : List S)
  | whl (c : E) (b : List S)
  | pas | brk | cnt
  | rai (c : Nat)
  | frz (i : Nat)
  | mkc (i : Nat)

/-! ### the monad: cells pass through; an error of a class of the text -/
abbrev G := List PV
inductive Out (α : Type) where
  | v (a : α) | x (c : Nat)
abbrev R (α : Type) := Option (Out α × G)
def bd {α β : Type} (r : R α) (f : α → G → R β) : R β :=
  match r with
  | none => none
  | some (.x c, g) => some (.x c, g)
  | some (.v a, g) => f a g
def rt {α : Type} (a : α) (g : G) : R α := some (.v a, g)
def lf {α : Type} (o : Option α) (g : G) : R α := match o with
  | none => none
  | some a => some (.v a, g)

/-! ### operations -/
def b2z (b : Bool) : Int := if b then 1 else 0
def P64 : Nat := 18446744073709551616
def binV : BOp → PV → PV → Option PV
  | .add, .int i, .int j => some (.int (i + j))
  | .add, .str x, .str y => if x.length + y.length ≤ LIM then some (.str (x ++ y)) else none
  | .add, .lst x, .lst y => if x.length + y.length ≤ LIM then some (.lst (x ++ y)) else none
  | .add, .tup x, .tup y => if x.length + y.length ≤ LIM then some (.tup (x ++ y)) else none
  | .sub, .int i, .int j => some (.int (i - j))
  | .mul, .int i, .int j => if i.natAbs < P64 || j.natAbs < P64 then some (.int (i * j)) else none
  | .mul, .lst x, .int k => if decide (k < 9223372036854775808) && decide (-9223372036854775808 ≤ k) && decide (x.length * k.toNat ≤ LIM) then some (.lst (List.replicate k.toNat x).flatten) else none
  | .mul, .tup x, .int k => if decide (0 ≤ k) && decide (k ≤ 1000) && decide (x.length ≤ 1000) && !x.isEmpty then some (.tup (List.replicate k.toNat x).flatten) else none
  | .fdiv, .int i, .int j => if decide (j ≠ 0) && decide (j.natAbs < 1073741824) then some (.int (i.fdiv j)) else none
  | .mod, .int i, .int j => if j ≠ 0 then some (.int (i.fmod j)) else none
  | .pow, .int i, .int j => if decide (0 ≤ j) && decide (j ≤ 1000000) && decide (i.natAbs < P64) then some (.int (i ^ j.toNat)) else none
  | .shl, .int i, .int j => if decide (0 ≤ j) && decide (j ≤ 1000000) && decide (i.natAbs < P64) then some (.int (i * 2 ^ j.toNat)) else none
  | .shr, .int i, .int j => if 0 ≤ j then some (.int (i / 2 ^ j.toNat)) else none
  | .band, .int i, .int j => some (.int (Builtin.bitAnd i j))
  | .bor, .int i, .int j => some (.int (Builtin.bitOr i j))
  | .bxor, .int i, .int j => some (.int (Builtin.bitXor i j))
  | _, _, _ => none
def inV (x : PV) : List PV → Bool
  | [] => false
  | y :: r => y.eqv x || inV x r
def okds (n : Nat) (l : List PV) : Bool := l.all (PV.okd n)
def cmpV : COp → PV → PV → Option Bool
  | .eq, a, b => eqV a b
  | .ne, a, b => (eqV a b).map (!·)
  | .lt, .int i, .int j => some (decide (i < j))
  | .le, .int i, .int j => some (decide (i ≤ j))
  | .gt, .int i, .int j => some (decide (j < i))
  | .ge, .int i, .int j => some (decide (j ≤ i))
  | .inn, x, .lst l => if x.okd DEEP && okds DEEP l then some (inV x l) else none
  | .inn, x, .tup l => if x.okd DEEP && okds DEEP l then some (inV x l) else none
  | .nin, x, .lst l => if x.okd DEEP && okds DEEP l then some (!inV x l) else none
  | .nin, x, .tup l => if x.okd DEEP && okds DEEP l then some (!inV x l) else none
  | _, _, _ => none
def ixN (n : Nat) (i : Int) : Option Nat := L2.ixN n i
def atI (l : List PV) (i : Int) : Option PV := L2.atI l i
def idxV (g : G) : PV → PV → Option PV
  | .lst l, .int i => atI l i
  | .tup l, .int i => atI l i
  | .cell k, .int i => match g[k]? with
    | some (.lst l) => atI l i
    | _ => none
  | _, _ => none
def cut {α : Type} (xs : List α) (lo hi : Option Int) : List α := (xs.drop (HT.sIx xs.length 0 lo)).take (HT.sIx xs.length xs.length hi - HT.sIx xs.length 0 lo)
def slV : PV → Option Int → Option Int → Option PV
  | .lst l, lo, hi => some (.lst (cut l lo hi))
  | .tup l, lo, hi => some (.tup (cut l lo hi))
  | _, _, _ => none
def revV : PV → Option PV
  | .lst l => some (.lst l.reverse)
  | .tup l => some (.tup l.reverse)
  | _ => none
def intsOf : List PV → Option (List Int)
  | [] => some []
  | .int i :: r => (intsOf r).map (i :: ·)
  | _ => none
def blsOf : List PV → Option (List Bool)
  | [] => some []
  | .bl b :: r => (blsOf r).map (b :: ·)
  | _ => none
def maxI : Int → List Int → Int
  | m, [] => m
  | m, x :: r => maxI (if m < x then x else m) r
def minI : Int → List Int → Int
  | m, [] => m
  | m, x :: r => minI (if x < m then x else m) r
def biV : Bi → PV → Option PV
  | .len, .lst l => some (.int l.length)
  | .len, .tup l => some (.int l.length)
  | .len, .scr l => some (.int l.length)
  | .sum, .lst l => (intsOf l).map fun ns => .int ns.sum
  | .sum, .tup l => (intsOf l).map fun ns => .int ns.sum
  | .all, .lst l => (blsOf l).map fun bs => .bl (bs.all id)
  | .any, .lst l => (blsOf l).map fun bs => .bl (bs.any id)
  | .abs, .int i => some (.int (if i < 0 then -i else i))
  | .max, .lst l => match intsOf l with
    | some (n :: ns) => some (.int (maxI n ns))
    | _ => none
  | .min, .lst l => match intsOf l with
    | some (n :: ns) => some (.int (minI n ns))
    | _ => none
  | .list, .lst l => some (.lst l)
  | .list, .tup l => some (.lst l)
  | .list, .scr l => some (.lst (l.map .int))
  | .tuple, .lst l => some (.tup l)
  | .tuple, .tup l => some (.tup l)
  | .int, .int i => some (.int i)
  | .int, .bl b => some (.int (b2z b))
  | _, _ => none
def isiV : Ty → PV → Option Bool
  | t, .non => some false
  | t, .bl _ => some (decide (t = .bool ∨ t = .int))
  | t, .int _ => some (decide (t = .int))
  | t, .str _ => some (decide (t = .str))
  | t, .tup _ => some (decide (t = .tuple))
  | t, .lst _ => some (decide (t = .list))
  | _, _ => none
/-- the first place of an equal one -/
def placeV (x : PV) : Nat → List PV → Option Nat
  | _, [] => none
  | n, y :: r => if y.eqv x then some n else placeV x (n + 1) r
def mtV : Mt → PV → PV → Option PV
  | .index, .lst l, x => if x.okd DEEP && okds DEEP l then (placeV x 0 l).map fun (n : Nat) => .int (n : Int) else none
  | _, _, _ => none
def rng (lo : Int) : Nat → List PV
  | 0 => []
  | n + 1 => .int lo :: rng (lo + 1) n
def smallB (i : Int) : Bool := decide (-4611686018427387904 ≤ i) && decide (i < 4611686018427387904)
def rng1V : PV → Option (List PV)
  | .int n => if smallB n && decide (n.toNat ≤ LIM) then some (rng 0 n.toNat) else none
  | _ => none
def rng2V : PV → PV → Option (List PV)
  | .int a, .int b => if smallB a && smallB b && decide ((b - a).toNat ≤ LIM) then some (rng a (b - a).toNat) else none
  | _, _ => none
def seqV : PV → Option (List PV)
  | .lst l => some l
  | .tup l => some l
  | _ => none
def zipP : List PV → List PV → List PV
  | x :: xs, y :: ys => .tup [x, y] :: zipP xs ys
  | _, _ => []
def zipV : PV → PV → Option (List PV)
  | .lst a, .lst b => some (zipP a b)
  | .tup a, .tup b => some (zipP a b)
  | .lst a, .tup b => some (zipP a b)
  | .tup a, .lst b => some (zipP a b)
  | _, _ => none
def enumP : Int → List PV → List PV
  | _, [] => []
  | i, x :: r => .tup [.int i, x] :: enumP (i + 1) r
def enumV : PV → Option (List PV)
  | .lst l => some (enumP 0 l)
  | .tup l => some (enumP 0 l)
  | _ => none

/-! ### slots -/
inductive Sl where
  | no | val (v : PV) | own (v : PV)
abbrev Env := List Sl
mutual
def bindT : T → PV → Env → Option Env
  | .nm i, v, ρ => if i < ρ.length then some (ρ.set i (.val v)) else none
  | .tp ts, .tup l, ρ => bindTs ts l ρ
  | .tp ts, _, _ => none
def bindTs : List T → List PV → Env → Option Env
  | [], [], ρ => some ρ
  | t :: ts, v :: vs, ρ => match bindT t v ρ with
    | some ρ' => bindTs ts vs ρ'
    | none => none
  | _, _, _ => none
end
def wipeE (ρ : Env) : List Nat → Env
  | [] => ρ
  | v :: vs => (wipeE ρ vs).set v .no

/-! ### the interpreter: calls by cf, nested syntax by a number that falls -/
abbrev CF := Nat → List PV → G → R PV
inductive SO where
  | nx (ρ : Env) | bk (ρ : Env) | ct (ρ : Env) | rt (v : PV) | ex (ρ : Env) (c : Nat)
structure Tab where
  /-- module-level names that hold values: ints, texts, defs -/
  gl : List (Str × PV)
abbrev EV := Env → G → E → R PV
abbrev BV := Env → G → List S → Option (SO × G)
def evL (e : EV) (ρ : Env) : G → List E → R (List PV)
  | g, [] => rt [] g
  | g, a :: r => bd (e ρ g a) fun v g1 => bd (evL e ρ g1 r) fun vs g2 => rt (v :: vs) g2
def evO (e : EV) (ρ : Env) (g : G) : Option E → R (Option Int)
  | none => rt none g
  | some a => bd (e ρ g a) fun v g1 => match v with
    | .int i => rt (some i) g1
    | _ => none
def evIt (e : EV) (ρ : Env) (g : G) : It → R (List PV)
  | .seq a => bd (e ρ g a) fun v g1 => lf (seqV v) g1
  | .rng1 a => bd (e ρ g a) fun v g1 => lf (rng1V v) g1
  | .rng2 a b => bd (e ρ g a) fun v g1 => bd (e ρ g1 b) fun w g2 => lf (rng2V v w) g2
  | .rng3 _ _ _ => none
  | .zip a b => bd (e ρ g a) fun v g1 => bd (e ρ g1 b) fun w g2 => lf (zipV v w) g2
  | .enum a => bd (e ρ g a) fun v g1 => lf (enumV v) g1
/-- a test that is a bool -/
def evC (e : EV) (ρ : Env) (g : G) (c : E) : R Bool := bd (e ρ g c) fun v g1 => match v with
  | .bl b => rt b g1
  | _ => none
def evCo (e : EV) (ρ : Env) (g : G) : Option E → R Bool
  | none => rt true g
  | some c => evC e ρ g c
/-- no error leaves a comprehension -/
def nx0 {α : Type} (r : R α) : R α := match r with
  | some (.v a, g) => some (.v a, g)
  | _ => none
def compGo (e : EV) (ρ : Env) (elt : E) (t : T) (c : Option E) : G → List PV → R (List PV)
  | g, [] => rt [] g
  | g, x :: r => match bindT t x ρ with
    | none => none
    | some ρ' => bd (evCo e ρ' g c) fun b g1 => match b with
      | false => compGo e ρ elt t c g1 r
      | true => bd (e ρ' g1 elt) fun v g2 => bd (compGo e ρ elt t c g2 r) fun vs g3 => rt (v :: vs) g3
def compGo2 (e : EV) (ρ : Env) (elt : E) (t : T) (c : Option E) (t' : T) (it' : It) (c' : Option E) (own' : List Nat) : G → List PV → R (List PV)
  | g, [] => rt [] g
  | g, x :: r => match bindT t x ρ with
    | none => none
    | some ρ' => bd (evCo e ρ' g c) fun b g1 => match b with
      | false => compGo2 e ρ elt t c t' it' c' own' g1 r
      | true => bd (evIt e ρ' g1 it') fun its g2 => bd (compGo e (wipeE ρ' own') elt t' c' g2 its) fun vs g3 =>
        bd (compGo2 e ρ elt t c t' it' c' own' g3 r) fun ws g4 => rt (vs ++ ws) g4
def evE1 (tb : Tab) (cf : CF) (e : EV) (ρ : Env) (g : G) : E → R PV
  | .var i => match ρ[i]? with
    | some (.val v) => rt v g
    | _ => none
  | .pk i => match ρ[i]? with
    | some (.val v) => rt v g
    | some (.own v) => rt v g
    | _ => none
  | .cst c => rt c g
  | .gv k => match tb.gl[k]? with
    | some (_, v) => rt v g
    | none => none
  | .bin o a b => bd (e ρ g a) fun v g1 => bd (e ρ g1 b) fun w g2 => lf (binV o v w) g2
  | .neg a => bd (e ρ g a) fun v g1 => match v with
    | .int i => rt (.int (-i)) g1
    | _ => none
  | .not a => bd (e ρ g a) fun v g1 => match v with
    | .bl b => rt (.bl (!b)) g1
    | _ => none
  | .and a b => bd (e ρ g a) fun v g1 => match v with
    | .bl true => e ρ g1 b
    | .bl false => rt (.bl false) g1
    | _ => none
  | .or a b => bd (e ρ g a) fun v g1 => match v with
    | .bl true => rt (.bl true) g1
    | .bl false => e ρ g1 b
    | _ => none
  | .cmp o a b => bd (e ρ g a) fun v g1 => bd (e ρ g1 b) fun w g2 => lf ((cmpV o v w).map .bl) g2
  | .isN a => bd (e ρ g a) fun v g1 => match v with
    | .non => rt (.bl true) g1
    | _ => rt (.bl false) g1
  | .isNN a => bd (e ρ g a) fun v g1 => match v with
    | .non => rt (.bl false) g1
    | _ => rt (.bl true) g1
  | .chain o o' a b c => bd (e ρ g a) fun v g1 => bd (e ρ g1 b) fun w g2 => match cmpV o v w with
    | some true => bd (e ρ g2 c) fun u g3 => lf ((cmpV o' w u).map .bl) g3
    | some false => rt (.bl false) g2
    | none => none
  | .ite c a b => bd (evC e ρ g c) fun k g1 => if k then e ρ g1 a else e ρ g1 b
  | .call f l => bd (evL e ρ g l) fun vs g1 => cf f vs g1
  | .gf k => rt (.fn k) g
  | .callv i l => match ρ[i]? with
    | some (.val (.fn f)) => bd (evL e ρ g l) fun vs g1 => cf f vs g1
    | _ => none
  | .bi b a => bd (e ρ g a) fun v g1 => lf (biV b v) g1
  | .isi t a => bd (e ρ g a) fun v g1 => lf ((isiV t v).map .bl) g1
  | .mt m r a => bd (e ρ g r) fun v g1 => bd (e ρ g1 a) fun w g2 => lf (mtV m v w) g2
  | .idx a i => bd (e ρ g a) fun v g1 => bd (e ρ g1 i) fun w g2 => lf (idxV g2 v w) g2
  | .sl a lo hi => bd (e ρ g a) fun v g1 => bd (evO e ρ g1 lo) fun l g2 => bd (evO e ρ g2 hi) fun h g3 => lf (slV v l h) g3
  | .rev a => bd (e ρ g a) fun v g1 => lf (revV v) g1
  | .tup l => bd (evL e ρ g l) fun vs g1 => rt (.tup vs) g1
  | .lst l => bd (evL e ρ g l) fun vs g1 => rt (.lst vs) g1
  | .comp elt t it c own => bd (evIt e ρ g it) fun its g1 => nx0 (bd (compGo e (wipeE ρ own) elt t c g1 its) fun vs g2 => rt (.lst vs) g2)
  | .comp2 elt t it c t' it' c' own own' => bd (evIt e ρ g it) fun its g1 => nx0 (bd (compGo2 e (wipeE ρ own) elt t c t' it' c' own' g1 its) fun vs g2 =>
      if vs.length ≤ LIM then rt (.lst vs) g2 else none)

/-! ### statements -/
def setSl (ρ : Env) (i : Nat) (s : Sl) : Option Env := if i < ρ.length then some (ρ.set i s) else none
/-- behind a value: go on, or the error leaves -/
def bs {α : Type} (ρ : Env) (r : R α) (f : α → G → Option (SO × G)) : Option (SO × G) :=
  match r with
  | none => none
  | some (.x c, g) => some (.ex ρ c, g)
  | some (.v a, g) => f a g
def slot (own : Bool) (v : PV) : Option Sl := if own then (match v with
    | .lst l => some (.own (.lst l))
    | .dic l => some (.own (.dic l))
    | _ => none) else some (.val v)
def setNx (ρ : Env) (i : Nat) (own : Bool) (v : PV) (g : G) : Option (SO × G) := match slot own v with
  | none => none
  | some s => match setSl ρ i s with
    | none => none
    | some ρ' => some (.nx ρ', g)
def setAll : Env → List (Bool × Nat × E) → List PV → Option Env
  | ρ, [], [] => some ρ
  | ρ, (o, i, _) :: l, v :: vs => match slot o v with
    | none => none
    | some s => match setSl ρ i s with
      | none => none
      | some ρ' => setAll ρ' l vs
  | _, _, _ => none
def flatP : PV → Bool
  | .non => true | .bl _ => true | .int _ => true | .str _ => true
  | _ => false
/-- what a cell may hold -/
def flatC : PV → Bool
  | .lst l => l.all flatP
  | _ => false
/-- change what stands in a slot of one's own, or in a cell -/
def modV (ρ : Env) (g : G) (i : Nat) (f : PV → Option PV) : Option (SO × G) := match ρ[i]? with
  | some (.own v) => match f v with
    | some v' => some (.nx (ρ.set i (.own v')), g)
    | none => none
  | some (.val (.cell k)) => match g[k]? with
    | some v => match f v with
      | some v' => if flatC v' then some (.nx ρ, g.set k v') else none
      | none => none
    | none => none
  | _ => none
def putV (x v : PV) : PV → Option PV
  | .lst l => match x with
    | .int i => match ixN l.length i with
      | some j => some (.lst (l.set j v))
      | none => none
    | _ => none
  | _ => none
def appV (v : PV) : PV → Option PV
  | .lst l => if l.length < LIM then some (.lst (l ++ [v])) else none
  | _ => none
def remV (x : PV) : PV → Option PV
  | .lst l => if x.okd DEEP && okds DEEP l then (match placeV x 0 l with
    | some j => some (.lst (l.eraseIdx j))
    | none => none) else none
  | _ => none
def forGo (b : BV) (t : T) (body : List S) : Env → G → List PV → Option (SO × G)
  | ρ, g, [] => some (.nx ρ, g)
  | ρ, g, x :: r => match bindT t x ρ with
    | none => none
    | some ρ' => match b ρ' g body with
      | some (.nx ρ2, g2) => forGo b t body ρ2 g2 r
      | some (.ct ρ2, g2) => forGo b t body ρ2 g2 r
      | some (.bk ρ2, g2) => some (.nx ρ2, g2)
      | o => o
def whlGo (e : EV) (b : BV) (c : E) (body : List S) : Nat → Env → G → Option (SO × G)
  | 0, _, _ => none
  | n + 1, ρ, g => bs ρ (evC e ρ g c) fun k g1 => match k with
    | false => some (.nx ρ, g1)
    | true => match b ρ g1 body with
      | some (.nx ρ2, g2) => whlGo e b c body n ρ2 g2
      | some (.ct ρ2, g2) => whlGo e b c body n ρ2 g2
      | some (.bk ρ2, g2) => some (.nx ρ2, g2)
      | o => o
abbrev TURNS : Nat := 1000000
def evS1 (e : EV) (b : BV) (ρ : Env) (g : G) : S → Option (SO × G)
  | .set own i a => bs ρ (e ρ g a) fun v g1 => setNx ρ i own v g1
  | .unp t a => bs ρ (e ρ g a) fun v g1 => match bindT t v ρ with
    | some ρ' => some (.nx ρ', g1)
    | none => none
  | .par _ l => bs ρ (evL e ρ g (l.map fun p => p.2.2)) fun vs g1 => match setAll ρ l vs with
    | some ρ' => some (.nx ρ', g1)
    | none => none
  | .sub i x a => bs ρ (e ρ g a) fun v g1 => bs ρ (e ρ g1 x) fun w g2 => modV ρ g2 i (putV w v)
  | .app i a => bs ρ (e ρ g a) fun v g1 => modV ρ g1 i (appV v)
  | .rem i a => bs ρ (e ρ g a) fun v g1 => modV ρ g1 i (remV v)
  | .ex a => bs ρ (e ρ g a) fun _ g1 => some (.nx ρ, g1)
  | .ret a => bs ρ (e ρ g a) fun v g1 => some (.rt v, g1)
  | .rto i => match ρ[i]? with
    | some (.own v) => some (.rt v, g)
    | _ => none
  | .retN => some (.rt .non, g)
  | .ite c x y => bs ρ (evC e ρ g c) fun k g1 => if k then b ρ g1 x else b ρ g1 y
  | .for t it body => bs ρ (evIt e ρ g it) fun its g1 => forGo b t body ρ g1 its
  | .whl c body => whlGo e b c body TURNS ρ g
  | .pas => some (.nx ρ, g)
  | .brk => some (.bk ρ, g)
  | .cnt => some (.ct ρ, g)
  | .rai c => some (.ex ρ c, g)
  | .frz i => match ρ[i]? with
    | some (.own v) => some (.nx (ρ.set i (.val v)), g)
    | some _ => some (.nx ρ, g)
    | none => none
  | .mkc i => match ρ[i]? with
    | some (.own v) => if flatC v then some (.nx (ρ.set i (.val (.cell g.length))), g ++ [v]) else none
    | _ => none
def evB1 (st : Env → G → S → Option (SO × G)) : Env → G → List S → Option (SO × G)
  | ρ, g, [] => some (.nx ρ, g)
  | ρ, g, s :: r => match st ρ g s with
    | some (.nx ρ', g') => evB1 st ρ' g' r
    | o => o
structure EB where
  e : EV
  b : BV
def ev (tb : Tab) (cf : CF) : Nat → EB
  | 0 => ⟨fun _ _ _ => none, fun _ _ _ => none⟩
  | n + 1 => ⟨evE1 tb cf (ev tb cf n).e, evB1 (evS1 (ev tb cf n).e (ev tb cf n).b)⟩
/-- a def: how many names, how many of them parameters, whether each list that it hands back is new -/
structure Fd where
  name : Str
  names : List Str
  par : Nat
  fresh : Bool
  body : List S
abbrev NEST : Nat := 60
/-- the cells that a call has made go with it -/
def endF (n : Nat) : Option (SO × G) → R PV
  | some (.rt v, g) => if decide (g.length = n) || flatP v then some (.v v, g.take n) else none
  | some (.nx _, g) => some (.v .non, g.take n)
  | some (.ex _ c, g) => some (.x c, g.take n)
  | _ => none
def startE (n : Nat) (vs : List PV) : Env := vs.map .val ++ List.replicate (n - vs.length) .no
def runF (tb : Tab) (fs : List Fd) : Nat → CF
  | 0 => fun _ _ _ => none
  | d + 1 => fun k vs g => match fs[k]? with
    | none => none
    | some f => if vs.length = f.par then endF g.length ((ev tb (runF tb fs d) NEST).b (startE f.names.length vs) g f.body) else none
end Z
end

section
set_option Elab.async false
set_option linter.all false
set_option maxRecDepth 100000
set_option maxHeartbeats 1000000
/-! Z2: which heap values stand for which pure values; states. -/
namespace Z
open PySem L2

theorem lim_eq : sizeLine = LIM := sizeLine_eq

/-- what is fixed in a proof: the written part, the defs' addresses -/
structure Wd where
  K : PySem.W.Frag
  fa : Nat → Addr
  nf : Nat

abbrev Own := Addr → Prop
/-- a tuple that nobody changes -/
def FT (K : PySem.W.Frag) (H : Hp) (O : Own) (a : Addr) (xs : List V) : Prop :=
  (Rd H a (.tup xs) ∧ ¬ O a) ∨ ∃ (o : Obj) (its : Array Value) (n : Nat), K.lookup a = some o ∧ o.cls = .type "tuple" ∧ o.data = .seq its n ∧ its.size ≤ sizeLine ∧ Vals xs its.toList
def FL (K : PySem.W.Frag) (H : Hp) (O : Own) (a : Addr) (xs : List V) : Prop :=
  (Rd H a (.lst xs) ∧ ¬ O a) ∨ ∃ (o : Obj) (its : Array Value) (n : Nat), K.lookup a = some o ∧ o.cls = .type "list" ∧ o.dict = none ∧ o.data = .seq its n ∧ its.size ≤ sizeLine ∧ Vals xs its.toList
theorem FT.sq {K H O a xs} (h : FT K H O a xs) : SqT K H a xs := h.elim (fun h => .inl h.1) .inr
theorem FL.sq {K H O a xs} (h : FL K H O a xs) : SqL K H a xs := h.elim (fun h => .inl h.1) .inr

mutual
inductive Rep (W : Wd) (cs : List Addr) (H : Hp) (O : Own) : V → PV → Prop
  | non : Rep W cs H O .non .non
  | bl (b : Bool) : Rep W cs H O (.bl b) (.bl b)
  | int (i : Int) : Rep W cs H O (.int i) (.int i)
  | str (s : Str) : Rep W cs H O (.str s) (.str s)
  | tup {a : Addr} {xs : List V} {l : List PV} : FT W.K H O a xs → xs.length ≤ LIM → Reps W cs H O xs l → Rep W cs H O (.ref a) (.tup l)
  | lst {a : Addr} {xs : List V} {l : List PV} : H a = some (.lst xs) → ¬ O a → xs.length ≤ LIM → Reps W cs H O xs l → Rep W cs H O (.ref a) (.lst l)
  | fn (k : Nat) : k < W.nf → Rep W cs H O (.ref (W.fa k)) (.fn k)
  | cell {k : Nat} {a : Addr} : cs[k]? = some a → Rep W cs H O (.ref a) (.cell k)
  | scr {a : Addr} {l : List Int} : FL W.K H O a (l.map V.int) → l.length ≤ LIM → Rep W cs H O (.ref a) (.scr l)
inductive Reps (W : Wd) (cs : List Addr) (H : Hp) (O : Own) : List V → List PV → Prop
  | nil : Reps W cs H O [] []
  | cons {v : V} {vs : List V} {p : PV} {ps : List PV} : Rep W cs H O v p → Reps W cs H O vs ps → Reps W cs H O (v :: vs) (p :: ps)
end

/-- what stood and is nobody's stands -/
structure Ext (H : Hp) (O : Own) (H' : Hp) (O' : Own) : Prop where
  at_ : ∀ a o, H a = some o → ¬ O a → H' a = some o ∧ ¬ O' a
theorem Ext.refl (H : Hp) (O : Own) : Ext H O H O := ⟨fun _ _ h n => ⟨h, n⟩⟩
theorem Ext.trans {H O H1 O1 H2 O2} (a : Ext H O H1 O1) (b : Ext H1 O1 H2 O2) : Ext H O H2 O2 := ⟨fun x o h n => b.at_ x o (a.at_ x o h n).1 (a.at_ x o h n).2⟩
theorem Ext.rd {H O H' O' a u} (e : Ext H O H' O') (h : Rd H a u) (n : ¬ O a) : Rd H' a u ∧ ¬ O' a := by
  rcases h with h | ⟨o, h⟩
  · exact ⟨.inl (e.at_ a _ h n).1, (e.at_ a _ h n).2⟩
  · exact ⟨.inr ⟨o, (e.at_ a _ h n).1⟩, (e.at_ a _ h n).2⟩
theorem FT.ext {K H O H' O' a xs} (e : Ext H O H' O') (h : FT K H O a xs) : FT K H' O' a xs := h.elim (fun h => .inl (e.rd h.1 h.2)) .inr
theorem FL.ext {K H O H' O' a xs} (e : Ext H O H' O') (h : FL K H O a xs) : FL K H' O' a xs := h.elim (fun h => .inl (e.rd h.1 h.2)) .inr
/-- the cells of before are the cells still -/
def Pre (cs cs' : List Addr) : Prop := ∀ (k : Nat) (a : Addr), cs[k]? = some a → cs'[k]? = some a
theorem Pre.refl (cs : List Addr) : Pre cs cs := fun _ _ h => h
theorem Pre.trans {a b c : List Addr} (x : Pre a b) (y : Pre b c) : Pre a c := fun k z h => y k z (x k z h)
mutual
theorem Rep.ext {W cs cs' H O H' O'} (p : Pre cs cs') (e : Ext H O H' O') : ∀ {v : V} {pv : PV}, Rep W cs H O v pv → Rep W cs' H' O' v pv
  | _, _, .non => .non
  | _, _, .bl b => .bl b
  | _, _, .int i => .int i
  | _, _, .str s => .str s
  | _, _, .tup h z r => .tup (h.ext e) z (Reps.ext p e r)
  | _, _, .lst h n z r => .lst (e.at_ _ _ h n).1 (e.at_ _ _ h n).2 z (Reps.ext p e r)
  | _, _, .fn k h => .fn k h
  | _, _, .cell h => .cell (p _ _ h)
  | _, _, .scr h z => .scr (h.ext e) z
theorem Reps.ext {W cs cs' H O H' O'} (p : Pre cs cs') (e : Ext H O H' O') : ∀ {vs : List V} {ps : List PV}, Reps W cs H O vs ps → Reps W cs' H' O' vs ps
  | _, _, .nil => .nil
  | _, _, .cons h t => .cons (Rep.ext p e h) (Reps.ext p e t)
end
/-- fewer owners -/
theorem Ext.less {H : Hp} {O O' : Own} (h : ∀ a, O' a → O a) : Ext H O H O' := ⟨fun a o e n => ⟨e, fun z => n (h a z)⟩⟩
section
variable {W : Wd} {cs : List Addr} {H : Hp} {O : Own}
theorem Reps.length : ∀ {vs : List V} {ps : List PV}, Reps W cs H O vs ps → vs.length = ps.length
  | _, _, .nil => rfl
  | _, _, .cons _ t => congrArg (· + 1) (Reps.length t)
theorem Reps.append : ∀ {vs ws : List V} {ps qs : List PV}, Reps W cs H O vs ps → Reps W cs H O ws qs → Reps W cs H O (vs ++ ws) (ps ++ qs)
  | _, _, _, _, .nil, t => t
  | _, _, _, _, .cons h r, t => .cons h (Reps.append r t)
theorem Reps.get : ∀ {vs : List V} {ps : List PV} {i : Nat} {p : PV}, Reps W cs H O vs ps → ps[i]? = some p → ∃ v, vs[i]? = some v ∧ Rep W cs H O v p
  | _, _, _, _, .nil, h => by simp at h
  | _, _, 0, _, .cons h _, e => ⟨_, rfl, by cases (show some _ = some _ from e); exact h⟩
  | _, _, i + 1, _, .cons _ t, e => Reps.get (i := i) t e
theorem Reps.getV : ∀ {vs : List V} {ps : List PV} {i : Nat} {v : V}, Reps W cs H O vs ps → vs[i]? = some v → ∃ p, ps[i]? = some p ∧ Rep W cs H O v p
  | _, _, _, _, .nil, h => by simp at h
  | _, _, 0, _, .cons h _, e => ⟨_, rfl, by cases (show some _ = some _ from e); exact h⟩
  | _, _, i + 1, _, .cons _ t, e => Reps.getV (i := i) t e
theorem Reps.take : ∀ {vs : List V} {ps : List PV} (n : Nat), Reps W cs H O vs ps → Reps W cs H O (vs.take n) (ps.take n)
  | _, _, 0, _ => by simp; exact .nil
  | _, _, n + 1, .nil => .nil
  | _, _, n + 1, .cons h t => .cons h (Reps.take n t)
theorem Reps.drop : ∀ {vs : List V} {ps : List PV} (n : Nat), Reps W cs H O vs ps → Reps W cs H O (vs.drop n) (ps.drop n)
  | _, _, 0, r => r
  | _, _, n + 1, .nil => .nil
  | _, _, n + 1, .cons _ t => Reps.drop n t
theorem Reps.set {v : V} {p : PV} (h : Rep W cs H O v p) : ∀ {vs : List V} {ps : List PV} (i : Nat), Reps W cs H O vs ps → Reps W cs H O (vs.set i v) (ps.set i p)
  | _, _, _, .nil => .nil
  | _, _, 0, .cons _ t => .cons h t
  | _, _, i + 1, .cons q t => .cons q (Reps.set h i t)
theorem Reps.eraseIdx : ∀ {vs : List V} {ps : List PV} (i : Nat), Reps W cs H O vs ps → Reps W cs H O (vs.eraseIdx i) (ps.eraseIdx i)
  | _, _, _, .nil => .nil
  | _, _, 0, .cons _ t => t
  | _, _, i + 1, .cons q t => .cons q (Reps.eraseIdx i t)
theorem Reps.reverse {vs : List V} {ps : List PV} (h : Reps W cs H O vs ps) : Reps W cs H O vs.reverse ps.reverse := by
  induction h using Reps.rec (motive_1 := fun _ _ _ => True) with
  | nil => exact .nil
  | cons h t _ ih => rw [List.reverse_cons, List.reverse_cons]; exact Reps.append ih (.cons h .nil)
  | _ => trivial
theorem Reps.rep {vs : List V} {ps : List PV} (h : Reps W cs H O vs ps) : ∀ k : Nat, Reps W cs H O (List.replicate k vs).flatten (List.replicate k ps).flatten
  | 0 => .nil
  | k + 1 => by
    rw [List.replicate_succ, List.replicate_succ, List.flatten_cons, List.flatten_cons]
    exact h.append (Reps.rep h k)
theorem Reps.ints : ∀ (l : List Int), Reps W cs H O (l.map V.int) (l.map PV.int)
  | [] => .nil
  | _ :: l => .cons (.int _) (Reps.ints l)
theorem Reps.toInts : ∀ {vs : List V} {ps : List PV} {ns : List Int}, Reps W cs H O vs ps → intsOf ps = some ns → vs = ns.map V.int
  | _, _, _, .nil, e => by cases (show some [] = some _ from e); rfl
  | _, _, _, .cons h t, e => by
    cases h with
    | int i =>
      rename_i ps
      have e : (intsOf ps).map (i :: ·) = some _ := e
      cases q : intsOf ps with
      | none => rw [q] at e; cases e
      | some m =>
        rw [q] at e
        cases e
        rw [Reps.toInts t q]; rfl
    | _ => cases e
theorem Reps.toBls : ∀ {vs : List V} {ps : List PV} {ns : List Bool}, Reps W cs H O vs ps → blsOf ps = some ns → vs = ns.map V.bl
  | _, _, _, .nil, e => by cases (show some [] = some _ from e); rfl
  | _, _, _, .cons h t, e => by
    cases h with
    | bl i =>
      rename_i ps
      have e : (blsOf ps).map (i :: ·) = some _ := e
      cases q : blsOf ps with
      | none => rw [q] at e; cases e
      | some m =>
        rw [q] at e
        cases e
        rw [Reps.toBls t q]; rfl
    | _ => cases e
end

/-- what stands at an address of one's own -/
def OwnAt (W : Wd) (cs : List Addr) (H : Hp) (O : Own) (a : Addr) : PV → Prop
  | .lst l => ∃ xs, H a = some (.lst xs) ∧ xs.length ≤ LIM ∧ Reps W cs H O xs l
  | _ => False
/-- a value that may be read at its top: nobody's, or one's own -/
def Rep1 (W : Wd) (cs : List Addr) (H : Hp) (O : Own) (v : V) (p : PV) : Prop := Rep W cs H O v p ∨ ∃ a, v = .ref a ∧ OwnAt W cs H O a p
theorem OwnAt.ext {W cs cs' H O H' O' a p} (q : Pre cs cs') (e : Ext H O H' O') (ha : ∀ o, H a = some o → H' a = some o) (h : OwnAt W cs H O a p) : OwnAt W cs' H' O' a p := by
  cases p with
  | lst l =>
    obtain ⟨xs, h1, h2, h3⟩ := h
    exact ⟨xs, ha _ h1, h2, h3.ext q e⟩
  | _ => exact h.elim
/-- the cells' contents -/
structure CellsOk (W : Wd) (cs : List Addr) (H : Hp) (O : Own) (g : G) : Prop where
  len : cs.length = g.length
  nd : cs.Nodup
  sub : ∀ a ∈ cs, O a
  con : ∀ (k : Nat) (a : Addr) (p : PV), cs[k]? = some a → g[k]? = some p → OwnAt W cs H O a p
  fl : ∀ (k : Nat) (p : PV), g[k]? = some p → flatC p = true
/-- one slot: B are the owners of outside -/
def SlOk (W : Wd) (cs : List Addr) (H : Hp) (O B : Own) (s : Option (Option V)) : Sl → Prop
  | .no => True
  | .val p => ∃ v, s = some (some v) ∧ Rep W cs H O v p
  | .own p => ∃ a, s = some (some (.ref a)) ∧ O a ∧ ¬ B a ∧ a ∉ cs ∧ OwnAt W cs H O a p
structure RS (W : Wd) (cs : List Addr) (H : Hp) (O B : Own) (σ : L2.St) (ρ : Env) (g : G) : Prop where
  len : σ.length = ρ.length
  at_ : ∀ (i : Nat) (s : Sl), ρ[i]? = some s → SlOk W cs H O B σ[i]? s
  dis : ∀ (i j : Nat) (p q : PV) (a : Addr), i ≠ j → ρ[i]? = some (.own p) → ρ[j]? = some (.own q) → σ[i]? = some (some (V.ref a)) → σ[j]? ≠ some (some (V.ref a))
  cells : CellsOk W cs H O g
  dom : ∀ a, O a → ∃ o, H a = some o
  bo : ∀ a, B a → O a
/-- an expression's heap: all but cells stand -/
structure Keep (cs : List Addr) (H H' : Hp) : Prop where
  at_ : ∀ a o, H a = some o → a ∉ cs → H' a = some o
  dom : ∀ a o, H a = some o → ∃ o', H' a = some o'
theorem Keep.refl (cs : List Addr) (H : Hp) : Keep cs H H := ⟨fun _ _ h _ => h, fun _ o h => ⟨o, h⟩⟩
theorem Keep.trans {cs H H1 H2} (a : Keep cs H H1) (b : Keep cs H1 H2) : Keep cs H H2 := ⟨fun x o h n => b.at_ x o (a.at_ x o h n) n, fun x o h => by
  obtain ⟨o1, h1⟩ := a.dom x o h
  exact b.dom x o1 h1⟩
theorem Keep.new {cs : List Addr} {H : Hp} {p : Addr} {o : HO} (h : H p = none) : Keep cs H (upd H p o) := ⟨fun a u e _ => by
  rw [upd_ne (ne_of_none e h)]; exact e, fun a u e => ⟨u, by rw [upd_ne (ne_of_none e h)]; exact e⟩⟩
theorem Keep.ext {cs H H'} {O : Own} (k : Keep cs H H') (h : ∀ a ∈ cs, O a) : Ext H O H' O := ⟨fun a o e n => ⟨k.at_ a o e fun z => n (h a z), n⟩⟩
theorem CellsOk.new {W cs H O g p o} (c : CellsOk W cs H O g) (h : H p = none) : CellsOk W cs (upd H p o) O g :=
  ⟨c.len, c.nd, c.sub, fun k a q h1 h2 => (c.con k a q h1 h2).ext (.refl _) ((Keep.new h).ext c.sub) fun u e => by rw [upd_ne (ne_of_none e h)]; exact e, c.fl⟩
section
variable {W : Wd} {cs : List Addr} {H H' : Hp} {O B : Own} {σ : L2.St} {ρ : Env} {g g' : G}
theorem Keep.rep {v : V} {p : PV} (k : Keep cs H H') (c : CellsOk W cs H O g) (h : Rep W cs H O v p) : Rep W cs H' O v p := h.ext (.refl _) (k.ext c.sub)
theorem Keep.reps {v : List V} {p : List PV} (k : Keep cs H H') (c : CellsOk W cs H O g) (h : Reps W cs H O v p) : Reps W cs H' O v p := h.ext (.refl _) (k.ext c.sub)
theorem Keep.own {a : Addr} {p : PV} (k : Keep cs H H') (c : CellsOk W cs H O g) (n : a ∉ cs) (h : OwnAt W cs H O a p) : OwnAt W cs H' O a p := h.ext (.refl _) (k.ext c.sub) fun o e => k.at_ a o e n
theorem RS.keep (r : RS W cs H O B σ ρ g) (k : Keep cs H H') (c : CellsOk W cs H' O g') : RS W cs H' O B σ ρ g' where
  len := r.len
  at_ := fun i s hs => by
    have h := r.at_ i s hs
    cases s with
    | no => trivial
    | val p => obtain ⟨v, e, h⟩ := h; exact ⟨v, e, k.rep r.cells h⟩
    | own p => obtain ⟨a, e, h1, h2, h3, h4⟩ := h; exact ⟨a, e, h1, h2, h3, k.own r.cells h3 h4⟩
  dis := r.dis
  cells := c
  dom := fun a h => by
    obtain ⟨o, e⟩ := r.dom a h
    exact k.dom a o e
  bo := r.bo
/-- the state with its slots wiped, as a comprehension's block sees it -/
theorem wipe_at : ∀ {σ : L2.St} {ρ : Env} (vs : List Nat), (∀ (i : Nat) (s : Sl), ρ[i]? = some s → SlOk W cs H O B σ[i]? s) → σ.length = ρ.length → ∀ (i : Nat) (s : Sl), (wipeE ρ vs)[i]? = some s → SlOk W cs H O B (wipe σ vs)[i]? s
  | σ, ρ, [], h, _, i, s, e => h i s e
  | σ, ρ, v :: vs, h, hl, i, s, e => by
    unfold wipeE at e
    unfold wipe
    by_cases hi : v = i
    · subst hi
      by_cases hv : v < (wipeE ρ vs).length
      · rw [List.getElem?_set_self hv] at e
        cases e; trivial
      · rw [List.getElem?_eq_none (by simpa using hv)] at e; cases e
    · rw [List.getElem?_set_ne hi] at e
      rw [List.getElem?_set_ne hi]
      exact wipe_at vs h hl i s e
theorem wipeE_length (ρ : Env) : ∀ vs : List Nat, (wipeE ρ vs).length = ρ.length
  | [] => rfl
  | v :: vs => by unfold wipeE; rw [List.length_set, wipeE_length ρ vs]
theorem wipeE_own {ρ : Env} {i : Nat} {p : PV} : ∀ {vs : List Nat}, (wipeE ρ vs)[i]? = some (.own p) → ρ[i]? = some (.own p) ∧ i ∉ vs
  | [], h => ⟨h, by simp⟩
  | v :: vs, h => by
    unfold wipeE at h
    by_cases hi : v = i
    · subst hi
      by_cases hv : v < (wipeE ρ vs).length
      · rw [List.getElem?_set_self hv] at h; cases h
      · rw [List.getElem?_eq_none (by simpa using hv)] at h; cases h
    · rw [List.getElem?_set_ne hi] at h
      obtain ⟨h1, h2⟩ := wipeE_own h
      exact ⟨h1, by simp only [List.mem_cons, not_or]; exact ⟨fun e => hi e.symm, h2⟩⟩
theorem wipe_none {σ : L2.St} {i : Nat} : ∀ {vs : List Nat}, i ∉ vs → (wipe σ vs)[i]? = σ[i]?
  | [], _ => rfl
  | v :: vs, h => by
    simp only [List.mem_cons, not_or] at h
    unfold wipe
    rw [List.getElem?_set_ne (Ne.symm h.1)]
    exact wipe_none h.2
theorem RS.wipe (r : RS W cs H O B σ ρ g) (vs : List Nat) : RS W cs H O B (L2.wipe σ vs) (wipeE ρ vs) g where
  len := by rw [wipe_length, wipeE_length]; exact r.len
  at_ := wipe_at vs r.at_ r.len
  dis := fun i j p q a hij h1 h2 h3 => by
    obtain ⟨h1, n1⟩ := wipeE_own h1
    obtain ⟨h2, n2⟩ := wipeE_own h2
    rw [wipe_none n1] at h3
    rw [wipe_none n2]
    exact r.dis i j p q a hij h1 h2 h3
  cells := r.cells
  dom := r.dom
  bo := r.bo
/-- a slot takes a value that is nobody's -/
theorem RS.put (r : RS W cs H O B σ ρ g) {i : Nat} {v : V} {p : PV} (hi : i < ρ.length) (h : Rep W cs H O v p) : RS W cs H O B (σ.set i (some v)) (ρ.set i (.val p)) g where
  len := by rw [List.length_set, List.length_set]; exact r.len
  at_ := fun j s e => by
    by_cases hj : i = j
    · subst hj
      rw [List.getElem?_set_self hi] at e
      cases e
      rw [List.getElem?_set_self (by rw [r.len]; exact hi)]
      exact ⟨v, rfl, h⟩
    · rw [List.getElem?_set_ne hj] at e
      rw [List.getElem?_set_ne hj]
      exact r.at_ j s e
  dis := fun j k q q' a hjk h1 h2 h3 => by
    by_cases hj : i = j
    · subst hj
      rw [List.getElem?_set_self hi] at h1; cases h1
    · by_cases hk : i = k
      · subst hk
        rw [List.getElem?_set_self hi] at h2; cases h2
      · rw [List.getElem?_set_ne hj] at h1 h3
        rw [List.getElem?_set_ne hk] at h2 ⊢
        exact r.dis j k q q' a hjk h1 h2 h3
  cells := r.cells
  dom := r.dom
  bo := r.bo
end
end Z
end

section
set_option Elab.async false
set_option linter.all false
set_option maxRecDepth 100000
set_option maxHeartbeats 1000000
/-! Z3: the operations on values keep what the interpreter says. -/
namespace Z
open PySem L2

/-! ### data -/
mutual
def PV.toD : PV → PyData
  | .non => .none
  | .bl b => .bool b
  | .int i => .int i
  | .str s => .str s
  | .tup l => .tuple (PV.toDs l)
  | .lst l => .list (PV.toDs l)
  | _ => .none
def PV.toDs : List PV → List PyData
  | [] => []
  | x :: r => PV.toD x :: PV.toDs r
end
mutual
theorem okd_plain : ∀ (n : Nat) (p : PV), p.okd n = true → p.toD.plain = true ∧ p.toD.depth ≤ n
  | _, .non, _ => ⟨rfl, Nat.zero_le _⟩
  | _, .bl _, _ => ⟨rfl, Nat.zero_le _⟩
  | _, .int _, _ => ⟨rfl, Nat.zero_le _⟩
  | _, .str _, _ => ⟨rfl, Nat.zero_le _⟩
  | n + 1, .tup l, h => by
    have h : l.all (PV.okd n) = true := by simpa [PV.okd] using h
    obtain ⟨a, b⟩ := okds_plain n l h
    exact ⟨by simpa [PV.toD, PyData.plain] using a, by simp only [PV.toD, PyData.depth]; omega⟩
  | n + 1, .lst l, h => by
    have h : l.all (PV.okd n) = true := by simpa [PV.okd] using h
    obtain ⟨a, b⟩ := okds_plain n l h
    exact ⟨by simpa [PV.toD, PyData.plain] using a, by simp only [PV.toD, PyData.depth]; omega⟩
  | 0, .tup l, h => by simp [PV.okd] at h
  | 0, .lst l, h => by simp [PV.okd] at h
  | 0, .dic _, h => by simp [PV.okd] at h
  | 0, .fn _, h => by simp [PV.okd] at h
  | 0, .cell _, h => by simp [PV.okd] at h
  | 0, .scr _, h => by simp [PV.okd] at h
  | _ + 1, .dic _, h => by simp [PV.okd] at h
  | _ + 1, .fn _, h => by simp [PV.okd] at h
  | _ + 1, .cell _, h => by simp [PV.okd] at h
  | _ + 1, .scr _, h => by simp [PV.okd] at h
theorem okds_plain : ∀ (n : Nat) (l : List PV), l.all (PV.okd n) = true → PyData.plainAll (PV.toDs l) = true ∧ PyData.depthAll (PV.toDs l) ≤ n
  | n, [], _ => ⟨rfl, by simp [PV.toDs, PyData.depthAll]⟩
  | n, x :: r, h => by
    rw [List.all_cons, Bool.and_eq_true] at h
    obtain ⟨a, b⟩ := okd_plain n x h.1
    obtain ⟨c, d⟩ := okds_plain n r h.2
    exact ⟨by simp only [PV.toDs, PyData.plainAll, a, c, Bool.and_self], by simp only [PV.toDs, PyData.depthAll]; omega⟩
end
mutual
theorem eqv_toD : ∀ (n m : Nat) (a b : PV), a.okd n = true → b.okd m = true → a.eqv b = PyData.eqv a.toD b.toD
  | n, m, .non, b, _, h => by cases b <;> first | rfl | (cases m <;> simp [PV.okd] at h) | simp [PV.eqv, PV.toD, PyData.eqv]
  | n, m, .bl x, b, _, h => by cases b <;> first | rfl | (cases m <;> simp [PV.okd] at h) | simp [PV.eqv, PV.toD, PyData.eqv]
  | n, m, .int x, b, _, h => by cases b <;> first | rfl | (cases m <;> simp [PV.okd] at h) | simp [PV.eqv, PV.toD, PyData.eqv]
  | n, m, .str x, b, _, h => by cases b <;> first | rfl | (cases m <;> simp [PV.okd] at h) | simp [PV.eqv, PV.toD, PyData.eqv]
  | n, m, .tup x, b, ha, h => by
    cases b with
    | tup y =>
      cases n with
      | zero => simp [PV.okd] at ha
      | succ n =>
        cases m with
        | zero => simp [PV.okd] at h
        | succ m =>
          have ha : x.all (PV.okd n) = true := by simpa [PV.okd] using ha
          have h : y.all (PV.okd m) = true := by simpa [PV.okd] using h
          simp only [PV.eqv, PV.toD, PyData.eqv]
          exact eqvs_toD n m x y ha h
    | _ => first | rfl | (cases m <;> simp [PV.okd] at h) | simp [PV.eqv, PV.toD, PyData.eqv]
  | n, m, .lst x, b, ha, h => by
    cases b with
    | lst y =>
      cases n with
      | zero => simp [PV.okd] at ha
      | succ n =>
        cases m with
        | zero => simp [PV.okd] at h
        | succ m =>
          have ha : x.all (PV.okd n) = true := by simpa [PV.okd] using ha
          have h : y.all (PV.okd m) = true := by simpa [PV.okd] using h
          simp only [PV.eqv, PV.toD, PyData.eqv]
          exact eqvs_toD n m x y ha h
    | _ => first | rfl | (cases m <;> simp [PV.okd] at h) | simp [PV.eqv, PV.toD, PyData.eqv]
  | n, m, .dic _, b, h, _ => by cases n <;> simp [PV.okd] at h
  | n, m, .fn _, b, h, _ => by cases n <;> simp [PV.okd] at h
  | n, m, .cell _, b, h, _ => by cases n <;> simp [PV.okd] at h
  | n, m, .scr _, b, h, _ => by cases n <;> simp [PV.okd] at h
theorem eqvs_toD : ∀ (n m : Nat) (a b : List PV), a.all (PV.okd n) = true → b.all (PV.okd m) = true → PV.eqvs a b = PyData.eqvAll (PV.toDs a) (PV.toDs b)
  | n, m, [], [], _, _ => rfl
  | n, m, [], y :: ys, _, _ => rfl
  | n, m, x :: xs, [], _, _ => rfl
  | n, m, x :: xs, y :: ys, ha, hb => by
    rw [List.all_cons, Bool.and_eq_true] at ha hb
    simp only [PV.eqvs, PV.toDs, PyData.eqvAll]
    rw [eqv_toD n m x y ha.1 hb.1, eqvs_toD n m xs ys ha.2 hb.2]
end
theorem inV_any (n m : Nat) (x : PV) (hx : x.okd m = true) : ∀ l : List PV, l.all (PV.okd n) = true → inV x l = (PV.toDs l).any fun y => PyData.eqv y x.toD
  | [], _ => rfl
  | y :: r, h => by
    rw [List.all_cons, Bool.and_eq_true] at h
    simp only [inV, PV.toDs, List.any_cons]
    rw [eqv_toD n m y x h.1 hx, inV_any n m x hx r h.2]
section
variable {W : Wd} {cs : List Addr} {H : Hp} {O : Own}
mutual
theorem Rep.dp : ∀ {v : V} {p : PV} (n : Nat), Rep W cs H O v p → p.okd n = true → Dp W.K H v p.toD
  | _, _, _, .non, _ => .non
  | _, _, _, .bl b, _ => .bl b
  | _, _, _, .int i, _ => .int i
  | _, _, _, .str i, _ => .str i
  | _, _, 0, .tup h _ r, e => by simp [PV.okd] at e
  | _, _, n + 1, .tup h _ r, e => by
    exact .tup h.sq (Reps.dp n r (by simpa [PV.okd] using e))
  | _, _, 0, .lst h _ _ r, e => by simp [PV.okd] at e
  | _, _, n + 1, .lst h _ _ r, e => by
    exact .lst (.of h) (Reps.dp n r (by simpa [PV.okd] using e))
  | _, _, n, .fn _ _, e => by cases n <;> simp [PV.okd] at e
  | _, _, n, .cell _, e => by cases n <;> simp [PV.okd] at e
  | _, _, n, .scr _ _, e => by cases n <;> simp [PV.okd] at e
theorem Reps.dp : ∀ {vs : List V} {ps : List PV} (n : Nat), Reps W cs H O vs ps → ps.all (PV.okd n) = true → DpAll W.K H vs (PV.toDs ps)
  | _, _, _, .nil, _ => .nil
  | _, _, n, .cons h r, e => by
    rw [List.all_cons, Bool.and_eq_true] at e
    exact .cons (Rep.dp n h e.1) (Reps.dp n r e.2)
end
theorem Rep1.dp {v : V} {p : PV} (n : Nat) (h : Rep1 W cs H O v p) (e : p.okd n = true) : Dp W.K H v p.toD := by
  rcases h with h | ⟨a, rfl, h⟩
  · exact h.dp n e
  · cases p with
    | lst l =>
      obtain ⟨xs, h1, _, h3⟩ := h
      cases n with
      | zero => simp [PV.okd] at e
      | succ n =>
        exact .lst (.of h1) (h3.dp n (by simpa [PV.okd] using e))
    | _ => exact h.elim
end

/-! ### the weakest readings -/
def rW (X : Cx) (f : Value → Value → Sem Value) : R2 := fun x y H Q => ∀ (pins : List (Addr × Obj)) (s : Shared) (σ : L2.St) (v u : Value), Inv X pins σ H s → RelV x v → RelV y u → wpAny (model X.prog X.w) X.A (f v u) (EP X pins σ Q) X.xe s
theorem rW_op (X : Cx) (f : Value → Value → Sem Value) : OpR X f (rW X f) := fun pins s σ H x y v u Q I rx ry h => h pins s σ v u I rx ry
theorem OpR.w {X : Cx} {f : Value → Value → Sem Value} {r : R2} (h : OpR X f r) {x y : V} {H : Hp} {Q : VK} (q : r x y H Q) : rW X f x y H Q := fun pins s σ v u I rx ry => h pins s σ H x y v u Q I rx ry q
def cW (X : Cx) (f : Value) : List V → Hp → VK → Prop := fun xs H Q => ∀ (pins : List (Addr × Obj)) (s : Shared) (σ : L2.St) (us : List Value), Inv X pins σ H s → Vals xs us → wpAny (model X.prog X.w) X.A (call f us) (EP X pins σ Q) X.xe s
theorem cW_op (X : Cx) (f : Value) : CallR X f (cW X f) := fun pins s σ H xs us Q I r h => h pins s σ us I r
theorem CallR.w {X : Cx} {f : Value} {r : List V → Hp → VK → Prop} (h : CallR X f r) {xs : List V} {H : Hp} {Q : VK} (q : r xs H Q) : cW X f xs H Q := fun pins s σ us I rx => h pins s σ H xs us Q I rx q
/-- what an operator's run may lean on -/
structure Gx (W : Wd) (X : Cx) : Prop where
  K : X.K = W.K
  calm : X.calm = true
  un : X.A.units + 200 < cLine
/-- a new list, a new dict -/
def NewV (W : Wd) (cs : List Addr) (H H' : Hp) (O : Own) (v : V) : PV → Prop
  | .lst l => ∃ p xs, v = .ref p ∧ H p = none ∧ H' p = some (.lst xs) ∧ xs.length ≤ LIM ∧ Reps W cs H' (fun a => O a ∨ a = p) xs l
  | .dic _ => False
  | _ => True
/-- what an operation leaves -/
structure Post (W : Wd) (cs : List Addr) (H H' : Hp) (O : Own) (v : V) (p : PV) : Prop where
  rep : Rep W cs H' O v p
  new : NewV W cs H H' O v p

section
variable {W : Wd} {cs : List Addr} {H : Hp} {O : Own} {X : Cx} {g : G} {Q : VK}
/-- the ways on from an operation's answer -/
abbrev Ans (W : Wd) (cs : List Addr) (H : Hp) (O : Own) (g : G) (u : PV) (Q : VK) : Prop := ∀ z H', Keep cs H H' → CellsOk W cs H' O g → Post W cs H H' O z u → Q z H'
/-- a flat value -/
def Flat : PV → Prop
  | .non => True | .bl _ => True | .int _ => True | .str _ => True | _ => False
theorem Ans.flat {u : PV} {z : V} (q : Ans W cs H O g u Q) (c : CellsOk W cs H O g) (h : Rep W cs H O z u) (f : Flat u) : Q z H :=
  q z H (.refl _ _) c ⟨h, by cases u <;> first | trivial | exact f.elim⟩
theorem own_new {p : Addr} {o : HO} (dom : ∀ a, O a → ∃ o, H a = some o) (hp : H p = none) : ¬ O p := fun z => by
  obtain ⟨o, e⟩ := dom p z
  rw [hp] at e; cases e
theorem Ext.fresh {p : Addr} {o : HO} (hp : H p = none) : Ext H O (upd H p o) (fun a => O a ∨ a = p) := ⟨fun a u e n => ⟨by rw [upd_ne (ne_of_none e hp)]; exact e, fun z => z.elim n (ne_of_none e hp)⟩⟩
/-- a new list at p -/
theorem Ans.lst {l : List PV} {xs : List V} {p : Addr} (q : Ans W cs H O g (.lst l) Q) (c : CellsOk W cs H O g) (dom : ∀ a, O a → ∃ o, H a = some o) (hp : H p = none) (hz : xs.length ≤ LIM) (r : Reps W cs H O xs l) : Q (.ref p) (upd H p (.lst xs)) := by
  have r2 : Reps W cs (upd H p (.lst xs)) (fun a => O a ∨ a = p) xs l := r.ext (.refl _) (Ext.fresh hp)
  refine q _ _ (Keep.new hp) (c.new hp) ⟨.lst upd_same (own_new (o := .lst xs) dom hp) hz (r2.ext (.refl _) (Ext.less fun a h => .inl h)), p, xs, rfl, hp, upd_same, hz, r2⟩
/-- a new tuple at p -/
theorem Ans.tup {l : List PV} {xs : List V} {p : Addr} (q : Ans W cs H O g (.tup l) Q) (c : CellsOk W cs H O g) (dom : ∀ a, O a → ∃ o, H a = some o) (hp : H p = none) (hz : xs.length ≤ LIM) (r : Reps W cs H O xs l) : Q (.ref p) (upd H p (.tup xs)) :=
  q _ _ (Keep.new hp) (c.new hp) ⟨.tup (.inl ⟨.inl upd_same, own_new (o := .lst xs) dom hp⟩) hz ((Keep.new hp).reps c r), trivial⟩
/-- a list that may be read -/
theorem Rep1.lst {v : V} {l : List PV} (h : Rep1 W cs H O v (.lst l)) : ∃ a xs, v = .ref a ∧ H a = some (.lst xs) ∧ xs.length ≤ LIM ∧ Reps W cs H O xs l := by
  rcases h with h | ⟨a, rfl, xs, h1, h2, h3⟩
  · cases h with
    | lst h1 _ h2 h3 => exact ⟨_, _, rfl, h1, h2, h3⟩
  · exact ⟨a, xs, rfl, h1, h2, h3⟩
theorem Rep1.tup {v : V} {l : List PV} (h : Rep1 W cs H O v (.tup l)) : ∃ a xs, v = .ref a ∧ FT W.K H O a xs ∧ xs.length ≤ LIM ∧ Reps W cs H O xs l := by
  rcases h with h | ⟨a, rfl, h⟩
  · cases h with
    | tup h1 h2 h3 => exact ⟨_, _, rfl, h1, h2, h3⟩
  · exact h.elim
theorem Rep1.int {v : V} {i : Int} (h : Rep1 W cs H O v (.int i)) : v = .int i := by
  rcases h with h | ⟨a, rfl, h⟩
  · cases h; rfl
  · exact h.elim
theorem Rep1.str {v : V} {i : Str} (h : Rep1 W cs H O v (.str i)) : v = .str i := by
  rcases h with h | ⟨a, rfl, h⟩
  · cases h; rfl
  · exact h.elim
theorem Rep1.bl {v : V} {i : Bool} (h : Rep1 W cs H O v (.bl i)) : v = .bl i := by
  rcases h with h | ⟨a, rfl, h⟩
  · cases h; rfl
  · exact h.elim
theorem lim_le {n : Nat} (h : n ≤ LIM) : n ≤ sizeLine := by rw [lim_eq]; exact h
end

/-! ### tuple * int, the short ways -/
theorem tuple_mul1 (l : Addr) (items : Array Value) (n : Nat) (dd : Option Addr) (sl : Array (Option Value)) (x : Int) (u : Tok) (c0 : (decide (x < -(2 ^ 63)) || decide (x ≥ 2 ^ 63)) = false) (c1 : (items.isEmpty || x == 1) = true) :
    Meets (Builtin.«tuple.__mul__» ⟨[.ref l, .int x u], []⟩) (fun _ R s => s.heap.get? l = some { cls := .type "tuple", dict := dd, data := .seq items n, slots := sl } ∧
      R (.ok (.ret (Value.ref l))) s) :=
  .of_wp fun prog w A R s h => by
    obtain ⟨hp, g, d, tk, os⟩ := s
    obtain ⟨hl, h⟩ := h
    have f1 := AutoSeq1.idx_int
    wp_walk using wpAny_loadPart' hl
    repeat (first
      | (refine wpAny_ite_false (decide_eq_false (by rw [c0]; exact Bool.false_ne_true)) ?_; wp_walk using wpAny_loadPart' hl)
      | (refine wpAny_ite_true (decide_eq_true c1) ?_; wp_walk using wpAny_loadPart' hl))
    exact ⟨_, rfl, h⟩
theorem tuple_mul0 (l : Addr) (items : Array Value) (n : Nat) (dd : Option Addr) (sl : Array (Option Value)) (x : Int) (u : Tok) (c0 : (decide (x < -(2 ^ 63)) || decide (x ≥ 2 ^ 63)) = false) (c1 : (items.isEmpty || x == 1) = false) (c2 : (decide (x ≤ 0) || items.isEmpty) = true) :
    Meets (Builtin.«tuple.__mul__» ⟨[.ref l, .int x u], []⟩) (fun _ R s => s.heap.get? l = some { cls := .type "tuple", dict := dd, data := .seq items n, slots := sl } ∧
      R (.ok (.ret (Value.ref s.heap.objs.size))) { s with heap := s.heap.push { cls := Value.type "tuple", data := Data.seq #[] }, toks := s.toks }) :=
  .of_wp fun prog w A R s h => by
    obtain ⟨hp, g, d, tk, os⟩ := s
    obtain ⟨hl, h⟩ := h
    have f1 := AutoSeq1.idx_int
    wp_walk using wpAny_loadPart' hl
    repeat (first
      | (refine wpAny_ite_false (decide_eq_false (by rw [c0]; exact Bool.false_ne_true)) ?_; wp_walk using wpAny_loadPart' hl)
      | (refine wpAny_ite_false (decide_eq_false (by rw [c1]; exact Bool.false_ne_true)) ?_; wp_walk using wpAny_loadPart' hl)
      | (refine wpAny_ite_true (decide_eq_true c2) ?_; wp_walk using wpAny_loadPart' hl))
    exact ⟨_, rfl, h⟩
section
open PyProof.Rows
variable {X : Cx}
theorem op_repT1 : OpR X (binaryOp .Mult) (fun x y H Q => ∃ l k xs, x = .ref l ∧ y = .int k ∧ SqT X.K H l xs ∧ -(2 ^ 63) ≤ k ∧ k < 2 ^ 63 ∧ (xs = [] ∨ k = 1) ∧ Q (.ref l) H) := by
  intro pins s σ H x y v u Q I rx ry h
  obtain ⟨l, k, xs, rfl, rfl, hT, h1, h2, hz, q⟩ := h
  cases rx
  obtain ⟨t, rfl⟩ := ry
  obtain ⟨its, r, ⟨⟨cls, dd, data, sl⟩, ho, hc, n, hd⟩, hs⟩ := I.tuple hT
  simp only at hc hd
  subst hc hd
  have c0 : (decide (k < -(2 ^ 63)) || decide (k ≥ 2 ^ 63)) = false := by
    rw [decide_eq_false (by omega), decide_eq_false (by omega)] <;> rfl
  have c1 : (its.toArray.isEmpty || k == 1) = true := by
    rcases hz with hz | hz
    · subst hz; cases r; rfl
    · rw [hz, beq_self_eq_true, Bool.or_true]
  refine wpAny_binaryOp_repeat_ref (T := "tuple") (U := "int") (by decide) ⟨_, ho, rfl⟩ (fun s' => typeIs_int s' k t) noFill_tuple_mul F.fills_int_mul F.slot_int_rmul repeat_tuple F.slot_int_index.lookup
    (call_meets F.slot_int_rmul (typeIs_int s k t) F.entry_int_rmul (F.args_int_rmul_2 _ _) (int_rmul_tuple k t l its.toArray n dd sl)
      ⟨ho, rfl, ⟨_, ho, rfl⟩, call_meets F.slot_tuple_mul ⟨_, ho, rfl⟩ F.entry_tuple_mul (F.args_tuple_mul_2 _ _) (tuple_mul1 l its.toArray n dd sl k t c0 c1) ⟨ho, ?_⟩⟩)
  exact ⟨.ref l, H, I, rfl, q⟩
theorem op_repT0 : OpR X (binaryOp .Mult) (fun x y H Q => ∃ l k xs, x = .ref l ∧ y = .int k ∧ SqT X.K H l xs ∧ xs ≠ [] ∧ -(2 ^ 63) ≤ k ∧ k ≤ 0 ∧ ∀ p, H p = none → Q (.ref p) (upd H p (.tup []))) := by
  intro pins s σ H x y v u Q I rx ry h
  obtain ⟨l, k, xs, rfl, rfl, hT, hne, h1, h2, q⟩ := h
  cases rx
  obtain ⟨t, rfl⟩ := ry
  obtain ⟨its, r, ⟨⟨cls, dd, data, sl⟩, ho, hc, n, hd⟩, hs⟩ := I.tuple hT
  simp only at hc hd
  subst hc hd
  have hi : its.toArray.isEmpty = false := by
    cases its with
    | nil => cases r; exact absurd rfl hne
    | cons a b => rfl
  have c0 : (decide (k < -(2 ^ 63)) || decide (k ≥ 2 ^ 63)) = false := by
    rw [decide_eq_false (by omega), decide_eq_false (by omega)] <;> rfl
  have c1 : (its.toArray.isEmpty || k == 1) = false := by
    rw [hi, Bool.false_or]
    exact beq_eq_false_iff_ne.mpr (by omega)
  have c2 : (decide (k ≤ 0) || its.toArray.isEmpty) = true := by
    rw [decide_eq_true h2, Bool.true_or]
  refine wpAny_binaryOp_repeat_ref (T := "tuple") (U := "int") (by decide) ⟨_, ho, rfl⟩ (fun s' => typeIs_int s' k t) noFill_tuple_mul F.fills_int_mul F.slot_int_rmul repeat_tuple F.slot_int_index.lookup
    (call_meets F.slot_int_rmul (typeIs_int s k t) F.entry_int_rmul (F.args_int_rmul_2 _ _) (int_rmul_tuple k t l its.toArray n dd sl)
      ⟨ho, rfl, ⟨_, ho, rfl⟩, call_meets F.slot_tuple_mul ⟨_, ho, rfl⟩ F.entry_tuple_mul (F.args_tuple_mul_2 _ _) (tuple_mul0 l its.toArray n dd sl k t c0 c1 c2) ⟨ho, ?_⟩⟩)
  refine ⟨.ref s.heap.objs.size, _, I.laid (t' := s.toks) (o := .tup []) (fun b ob q => Heap.get?_push_of_some _ q) (Nat.le_refl _) ?_, rfl, q _ (I.hok.fresh (Nat.le_refl _))⟩
  exact ⟨Nat.zero_le _, [], .nil, IsTup.new _ _⟩
end
/-! ### operators -/
theorem p64 : ((P64 : Nat) : Int) = 2 ^ 64 := by decide
theorem mul_of {i j : Int} (h : (i.natAbs < P64 || j.natAbs < P64) = true) : CMul i j := by
  rw [Bool.or_eq_true, decide_eq_true_eq, decide_eq_true_eq] at h
  unfold P64 at h
  rcases h with h | h
  · exact .inl ⟨by omega, by omega⟩
  · exact .inr ⟨by omega, by omega⟩
def bopOf : BOp → Operator
  | .add => .Add | .sub => .Sub | .mul => .Mult | .fdiv => .FloorDiv | .mod => .Mod | .pow => .Pow | .shl => .LShift | .shr => .RShift | .band => .BitAnd | .bor => .BitOr | .bxor => .BitXor
section
variable {W : Wd} {cs : List Addr} {H : Hp} {O : Own} {X : Cx} {g : G} {Q : VK} {x y : V}
theorem bin_ok (GX : Gx W X) (c : CellsOk W cs H O g) (dom : ∀ a, O a → ∃ o, H a = some o) : ∀ {o : BOp} {v w u : PV}, binV o v w = some u → Rep1 W cs H O x v → Rep1 W cs H O y w → Ans W cs H O g u Q → rW X (binaryOp (bopOf o)) x y H Q := by
  intro o v w u h hv hw q
  have hK := GX.K
  unfold binV at h
  split at h
  · cases h; exact OpR.w op_add ⟨_, _, hv.int, hw.int, q.flat c (.int _) trivial⟩
  · rename_i z1 z2
    split at h
    · rename_i hz
      cases h; exact OpR.w op_add_str ⟨_, _, hv.str, hw.str, lim_le hz, q.flat c (.str _) trivial⟩
    · cases h
  · rename_i l1 l2
    split at h
    · rename_i hz
      cases h
      obtain ⟨a, xs, rfl, h1, h2, h3⟩ := hv.lst
      obtain ⟨b, ys, rfl, k1, k2, k3⟩ := hw.lst
      have e : xs.length + ys.length ≤ LIM := by rw [h3.length, k3.length]; exact hz
      refine OpR.w op_cat ⟨a, b, xs, ys, rfl, rfl, h1, k1, lim_le e, fun p hp => q.lst c dom hp (by rw [List.length_append]; exact e) (h3.append k3)⟩
    · cases h
  · rename_i l1 l2
    split at h
    · rename_i hz
      cases h
      obtain ⟨a, xs, rfl, h1, h2, h3⟩ := hv.tup
      obtain ⟨b, ys, rfl, k1, k2, k3⟩ := hw.tup
      have e : xs.length + ys.length ≤ LIM := by rw [h3.length, k3.length]; exact hz
      refine OpR.w op_catA ⟨a, b, xs, ys, rfl, rfl, by rw [hK]; exact h1.sq, by rw [hK]; exact k1.sq, lim_le e, fun e => ?_, fun e e' => ?_, fun _ _ p hp => q.tup c dom hp (by rw [List.length_append]; assumption) (h3.append k3)⟩
      · subst e
        cases h3
        exact q _ _ (.refl _ _) c ⟨.tup k1 k2 k3, trivial⟩
      · subst e'
        cases k3
        rw [List.append_nil] at q
        exact q _ _ (.refl _ _) c ⟨.tup h1 h2 h3, trivial⟩
    · cases h
  · cases h; exact OpR.w op_sub ⟨_, _, hv.int, hw.int, q.flat c (.int _) trivial⟩
  · split at h
    · rename_i hz
      cases h; exact OpR.w op_mul ⟨_, _, hv.int, hw.int, mul_of hz, q.flat c (.int _) trivial⟩
    · cases h
  · rename_i l k
    split at h
    · rename_i hz
      cases h
      rw [Bool.and_eq_true, Bool.and_eq_true, decide_eq_true_eq, decide_eq_true_eq, decide_eq_true_eq] at hz
      obtain ⟨⟨z1, z2⟩, z3⟩ := hz
      obtain ⟨a, xs, rfl, h1, h2, h3⟩ := hv.lst
      have e : xs.length * k.toNat ≤ LIM := by rw [h3.length]; exact z3
      refine OpR.w op_rep ⟨a, k, xs, rfl, hw.int, h1, by omega, by omega, lim_le e, fun p hp => q.lst c dom hp (by rw [PyProof.Rows.lm_len_rep_flat, Nat.mul_comm]; exact e) (h3.rep _)⟩
    · cases h
  · rename_i l k
    split at h
    · rename_i hz
      cases h
      rw [Bool.and_eq_true, Bool.and_eq_true, Bool.and_eq_true, decide_eq_true_eq, decide_eq_true_eq, decide_eq_true_eq] at hz
      obtain ⟨⟨⟨z1, z2⟩, z3⟩, z4⟩ := hz
      obtain ⟨a, xs, rfl, h1, h2, h3⟩ := hv.tup
      have hl := h3.length
      have hne : xs ≠ [] := fun e => by
        subst e
        have : l = [] := List.eq_nil_of_length_eq_zero hl.symm
        subst this
        simp at z4
      by_cases k1 : k = 1
      · subst k1
        refine OpR.w op_repT1 ⟨a, 1, xs, rfl, hw.int, by rw [hK]; exact h1.sq, by omega, by omega, .inr rfl, ?_⟩
        have e : (List.replicate (1 : Int).toNat l).flatten = l := by
          show (List.replicate 1 l).flatten = l
          simp
        rw [e] at q
        exact q _ _ (.refl _ _) c ⟨.tup h1 h2 h3, trivial⟩
      · by_cases k0 : k = 0
        · subst k0
          exact OpR.w op_repT0 ⟨a, 0, xs, rfl, hw.int, by rw [hK]; exact h1.sq, hne, by omega, by omega, fun p hp => q.tup c dom hp (Nat.zero_le _) .nil⟩
        · have hz : xs.length * k.toNat ≤ 1000 * 1000 := Nat.mul_le_mul (by omega) (by omega)
          refine OpR.w op_repT ⟨a, k, xs, rfl, hw.int, by rw [hK]; exact h1.sq, hne, by omega, by omega, by omega, fun p hp => q.tup c dom hp ?_ (h3.rep _)⟩
          rw [PyProof.Rows.lm_len_rep_flat, Nat.mul_comm]
          exact Nat.le_trans hz (by decide)
    · cases h
  · split at h
    · rename_i hz
      cases h
      rw [Bool.and_eq_true, decide_eq_true_eq, decide_eq_true_eq] at hz
      exact OpR.w op_fdivN ⟨_, _, hv.int, hw.int, ⟨hz.1, hz.2⟩, q.flat c (.int _) trivial⟩
    · cases h
  · split at h
    · rename_i hz
      cases h
      exact OpR.w op_modN ⟨_, _, hv.int, hw.int, hz, q.flat c (.int _) trivial⟩
    · cases h
  · split at h
    · rename_i hz
      cases h
      rw [Bool.and_eq_true, Bool.and_eq_true, decide_eq_true_eq, decide_eq_true_eq, decide_eq_true_eq] at hz
      exact OpR.w op_pow ⟨_, _, hv.int, hw.int, ⟨hz.1.1, hz.1.2, hz.2⟩, q.flat c (.int _) trivial⟩
    · cases h
  · split at h
    · rename_i hz
      cases h
      rw [Bool.and_eq_true, Bool.and_eq_true, decide_eq_true_eq, decide_eq_true_eq, decide_eq_true_eq] at hz
      exact OpR.w op_shl ⟨_, _, hv.int, hw.int, ⟨hz.1.1, hz.1.2, hz.2⟩, q.flat c (.int _) trivial⟩
    · cases h
  · split at h
    · rename_i hz
      cases h
      exact OpR.w op_shr ⟨_, _, hv.int, hw.int, hz, q.flat c (.int _) trivial⟩
    · cases h
  · cases h; exact OpR.w op_and ⟨_, _, hv.int, hw.int, q.flat c (.int _) trivial⟩
  · cases h; exact OpR.w op_or ⟨_, _, hv.int, hw.int, q.flat c (.int _) trivial⟩
  · cases h; exact OpR.w op_xor ⟨_, _, hv.int, hw.int, q.flat c (.int _) trivial⟩
  · cases h

/-! ### comparisons -/
def copOf : COp → CmpOp
  | .eq => .Eq | .ne => .NotEq | .lt => .Lt | .le => .LtE | .gt => .Gt | .ge => .GtE | .inn => .In | .nin => .NotIn
theorem op_eqP : OpR X (compareOp .Eq) (fun x y H Q => ∃ d e, Dp X.K H x d ∧ Dp X.K H y e ∧ d.plain = true ∧ e.plain = true ∧ d.depth ≤ 64 ∧ X.A.units + 200 < cLine ∧ Q (.bl (PyData.eqv d e)) H) := by
  intro pins s σ H x y v u Q I rx ry h
  obtain ⟨d, e, hd, he, sd, se, hz, hu, q⟩ := h
  obtain ⟨as, r1⟩ := Dp.reads I d x v hd rx
  obtain ⟨bs, r2⟩ := Dp.reads I e y u he ry
  exact SeqAt.eq_plain r1 r2 sd se (by have := Nat.min_le_left d.depth e.depth; omega) ⟨.bl _, H, I, rfl, q⟩
theorem op_neP : OpR X (compareOp .NotEq) (fun x y H Q => ∃ d e, Dp X.K H x d ∧ Dp X.K H y e ∧ d.plain = true ∧ e.plain = true ∧ d.depth ≤ 64 ∧ X.A.units + 200 < cLine ∧ Q (.bl (!PyData.eqv d e)) H) := by
  intro pins s σ H x y v u Q I rx ry h
  obtain ⟨d, e, hd, he, sd, se, hz, hu, q⟩ := h
  obtain ⟨as, r1⟩ := Dp.reads I d x v hd rx
  obtain ⟨bs, r2⟩ := Dp.reads I e y u he ry
  exact SeqAt.ne_plain r1 r2 sd se (by have := Nat.min_le_left d.depth e.depth; omega) ⟨.bl _, H, I, rfl, q⟩
/-- x in c, x not in c -/
theorem op_inP (k : Bool) : OpR X (compareOp (if k then .NotIn else .In)) (fun x y H Q => ∃ d ds, Dp X.K H x d ∧ (Dp X.K H y (.list ds) ∨ Dp X.K H y (.tuple ds)) ∧ d.plain = true ∧ PyData.plainAll ds = true ∧ d.depth ≤ 64 ∧ X.A.units + 200 < cLine ∧ Q (.bl (if k then !(ds.any fun z => PyData.eqv z d) else ds.any fun z => PyData.eqv z d)) H) := by
  intro pins s σ H x y v u Q I rx ry h
  obtain ⟨d, ds, hd, he, sd, se, hz, hu, q⟩ := h
  obtain ⟨as, r1⟩ := Dp.reads I d x v hd rx
  have hh : X.A.units + 1 + min (PyData.depthAll ds) d.depth < cLine := by have := Nat.min_le_right (PyData.depthAll ds) d.depth; omega
  rcases he with he | he
  · obtain ⟨bs, r2⟩ := Dp.reads I (.list ds) y u he ry
    cases k with
    | false => exact SeqAt.in_list_data r2 r1 se sd hh ⟨.bl _, H, I, rfl, q⟩
    | true => exact SeqAt.notIn_list_data r2 r1 se sd hh ⟨.bl _, H, I, rfl, q⟩
  · obtain ⟨bs, r2⟩ := Dp.reads I (.tuple ds) y u he ry
    cases k with
    | false => exact SeqAt.in_tuple_data r2 r1 se sd hh ⟨.bl _, H, I, rfl, q⟩
    | true => exact SeqAt.notIn_tuple_data r2 r1 se sd hh ⟨.bl _, H, I, rfl, q⟩
theorem okd_deep {p : PV} (h : p.okd DEEP = true) : p.toD.plain = true ∧ p.toD.depth ≤ 64 := by
  obtain ⟨a, b⟩ := okd_plain _ _ h
  exact ⟨a, Nat.le_trans b (by decide)⟩
theorem Rep1.dps {v : V} {l : List PV} {b : Bool} (h : Rep1 W cs H O v (if b then .lst l else .tup l)) (e : okds DEEP l = true) : Dp W.K H v (.list (PV.toDs l)) ∨ Dp W.K H v (.tuple (PV.toDs l)) := by
  cases b with
  | true =>
    obtain ⟨a, xs, rfl, h1, h2, h3⟩ := Rep1.lst h
    exact .inl (.lst (.of h1) (h3.dp DEEP e))
  | false =>
    obtain ⟨a, xs, rfl, h1, h2, h3⟩ := Rep1.tup h
    exact .inr (.tup h1.sq (h3.dp DEEP e))
theorem in_ok (GX : Gx W X) (c : CellsOk W cs H O g) {p : PV} {l : List PV} {b k : Bool} (hx : Rep1 W cs H O x p) (hy : Rep1 W cs H O y (if b then .lst l else .tup l)) (h1 : p.okd DEEP = true) (h2 : okds DEEP l = true)
    (q : Ans W cs H O g (.bl (if k then !inV p l else inV p l)) Q) : rW X (compareOp (if k then .NotIn else .In)) x y H Q := by
  have hK := GX.K
  refine OpR.w (op_inP k) ⟨p.toD, PV.toDs l, by rw [hK]; exact hx.dp _ h1, by rw [hK]; exact hy.dps h2, (okd_deep h1).1, (okds_plain _ _ h2).1, (okd_deep h1).2, GX.un, ?_⟩
  rw [← inV_any DEEP DEEP p h1 l h2]
  exact q.flat c (.bl _) trivial
theorem cmp_ok (GX : Gx W X) (c : CellsOk W cs H O g) : ∀ {o : COp} {v w : PV} {u : Bool}, cmpV o v w = some u → Rep1 W cs H O x v → Rep1 W cs H O y w → Ans W cs H O g (.bl u) Q → rW X (compareOp (copOf o)) x y H Q := by
  intro o v w u h hv hw q
  have hK := GX.K
  unfold cmpV at h
  split at h
  · unfold eqV at h
    split at h
    · rename_i hz
      cases h
      rw [Bool.and_eq_true] at hz
      refine OpR.w op_eqP ⟨v.toD, w.toD, by rw [hK]; exact hv.dp _ hz.1, by rw [hK]; exact hw.dp _ hz.2, (okd_deep hz.1).1, (okd_deep hz.2).1, (okd_deep hz.1).2, GX.un, ?_⟩
      rw [← eqv_toD _ _ _ _ hz.1 hz.2]
      exact q.flat c (.bl _) trivial
    · cases h
  · unfold eqV at h
    split at h
    · rename_i hz
      cases h
      rw [Bool.and_eq_true] at hz
      refine OpR.w op_neP ⟨v.toD, w.toD, by rw [hK]; exact hv.dp _ hz.1, by rw [hK]; exact hw.dp _ hz.2, (okd_deep hz.1).1, (okd_deep hz.2).1, (okd_deep hz.1).2, GX.un, ?_⟩
      rw [← eqv_toD _ _ _ _ hz.1 hz.2]
      exact q.flat c (.bl _) trivial
    · cases h
  · cases h; exact OpR.w op_lt ⟨_, _, hv.int, hw.int, q.flat c (.bl _) trivial⟩
  · cases h; exact OpR.w op_le ⟨_, _, hv.int, hw.int, q.flat c (.bl _) trivial⟩
  · cases h; exact OpR.w op_gt ⟨_, _, hv.int, hw.int, q.flat c (.bl _) trivial⟩
  · cases h; exact OpR.w op_ge ⟨_, _, hv.int, hw.int, q.flat c (.bl _) trivial⟩
  · split at h
    · rename_i hz
      cases h
      rw [Bool.and_eq_true] at hz
      exact in_ok (b := true) (k := false) GX c hv hw hz.1 hz.2 q
    · cases h
  · split at h
    · rename_i hz
      cases h
      rw [Bool.and_eq_true] at hz
      exact in_ok (b := false) (k := false) GX c hv hw hz.1 hz.2 q
    · cases h
  · split at h
    · rename_i hz
      cases h
      rw [Bool.and_eq_true] at hz
      exact in_ok (b := true) (k := true) GX c hv hw hz.1 hz.2 q
    · cases h
  · split at h
    · rename_i hz
      cases h
      rw [Bool.and_eq_true] at hz
      exact in_ok (b := false) (k := true) GX c hv hw hz.1 hz.2 q
    · cases h
  · cases h
end
end Z
end

section
set_option Elab.async false
set_option linter.all false
set_option maxRecDepth 100000
set_option maxHeartbeats 1000000
/-! Z4: subscripts, slices, built-in functions and methods. -/
namespace PySem
namespace ZRev
open PySem PyProof.Rows HT
section
variable {prog : Program} {w : World} {A : Around} {E : Value → Shared → Prop} {s : Shared}
theorem adjust_rev (n : Nat) : Builtin.Slice.sliceAdjust none none (-1) (n : Int) = ((n : Int) - 1, -1) := rfl
theorem places_rev (n : Nat) : Builtin.Slice.slicePlaces ((n : Int) - 1) (-1) (-1) = n := by
  unfold Builtin.Slice.slicePlaces
  rw [if_neg (by omega)]
  split
  · have e : (-(-1 : Int)) = 1 := rfl
    rw [e, Int.ediv_one]
    omega
  · omega
theorem sliceApplied_rev {sl : Addr} {vl vu vs : Value} {n : Nat} {Q : Int × Int × Nat → Shared → Prop} (hs : s.heap.IsSliceOf sl vl vu vs) (pl : IsPart vl none) (pu : IsPart vu none) (ps : IsPart vs (some (-1)))
    (h : Q ((n : Int) - 1, -1, n) s) : wpAny (model prog w) A (Builtin.Slice.sliceApplied (.ref sl) (pure (n : Int))) Q E s := by
  obtain ⟨os, hos, hcs, hds⟩ := id hs
  unfold Builtin.Slice.sliceApplied Builtin.Slice.sliceFields
  refine wpAny_bind (wpAny_bind (wpAny_field hos hds (x := vl) rfl (wpAny_bind (wpAny_field hos hds (x := vu) rfl (wpAny_bind (wpAny_field hos hds (x := vs) rfl (wpAny_pure ?_)))))))
  refine wpAny_bind (slicePart_ ps ?_)
  show wpAny _ _ (if ((-1 : Int) == 0) = true then _ else _) _ _ s
  rw [if_neg (by decide)]
  refine wpAny_bind (slicePart_ pl (wpAny_bind (slicePart_ pu (wpAny_bind (wpAny_pure ?_)))))
  show wpAny _ _ (pure ((n : Int) - 1, (-1 : Int), Builtin.Slice.slicePlaces ((n : Int) - 1) (-1) (-1))) _ _ s
  rw [places_rev]
  exact wpAny_pure h
theorem fm_map {α β : Type} {f : α → Option β} {g : α → β} : ∀ (l : List α), (∀ m ∈ l, f m = some (g m)) → l.filterMap f = l.map g
  | [], _ => rfl
  | a :: l, h => by
    rw [List.filterMap_cons, h a List.mem_cons_self, List.map_cons, fm_map l fun m hm => h m (List.mem_cons_of_mem _ hm)]
theorem pick_rev (xs : Array Value) : ((List.range xs.size).filterMap fun (m : Nat) => xs[(((xs.size : Int) - 1) + (m : Int) * (-1)).toNat]?).toArray = xs.toList.reverse.toArray := by
  congr 1
  apply List.ext_getElem?
  intro i
  have e : (List.range xs.size).filterMap (fun (m : Nat) => xs[(((xs.size : Int) - 1) + (m : Int) * (-1)).toNat]?) = (List.range xs.size).map fun (m : Nat) => xs.toList.getD (xs.size - 1 - m) default := by
    refine fm_map _ fun m hm => ?_
    have hm : m < xs.size := List.mem_range.mp hm
    have e1 : (((xs.size : Int) - 1) + (m : Int) * (-1)).toNat = xs.size - 1 - m := by omega
    rw [e1]
    have h2 : xs.size - 1 - m < xs.size := by omega
    show xs[xs.size - 1 - m]? = some (xs.toList.getD (xs.size - 1 - m) default)
    rw [Array.getElem?_eq_getElem h2, List.getD_eq_getElem?_getD, List.getElem?_eq_getElem (by simpa using h2)]
    simp
  rw [e]
  by_cases hi : i < xs.size
  · rw [List.getElem?_map, List.getElem?_range hi, List.getElem?_reverse (by simpa using hi)]
    simp only [Option.map_some, Array.length_toList]
    rw [List.getElem?_eq_getElem (by simp; omega), List.getD_eq_getElem?_getD, List.getElem?_eq_getElem (by simp; omega)]
    rfl
  · rw [List.getElem?_eq_none (by simp; omega), List.getElem?_eq_none (by simp; omega)]
theorem getItem_tuple_rev {t sl : Addr} {items : Array Value} {vl vu vs : Value} {Q : Value → Shared → Prop} (ht : IsTup s.heap t items) (hs : s.heap.IsSliceOf sl vl vu vs) (pl : IsPart vl none) (pu : IsPart vu none) (ps : IsPart vs (some (-1)))
    (h : Q (.ref s.heap.objs.size) { s with heap := s.heap.push { cls := .type "tuple", data := .seq items.toList.reverse.toArray } })
    (hsz : items.size ≤ sizeLine) : wpAny (model prog w) A (getItem (.ref t) (.ref sl)) Q E s := by
  have htake : sizeOk (.seq items.toList.reverse.toArray) := by
    show items.toList.reverse.toArray.size ≤ sizeLine
    rw [List.size_toArray, List.length_reverse, Array.length_toList]
    exact hsz
  obtain ⟨os, hos, hcs, hds⟩ := id hs
  have hTs : s.TypeIs (.ref sl) "slice" := ⟨os, hos, hcs⟩
  unfold getItem
  try with_reducible refine wpAny_holding ?_
  first | refine wpAny_bind (wpAny_pure ?_) | skip
  refine wpAny_bind (wpAny_sequenceKey ht.typeIs (by decide) ?_)
  refine wpAny_bind (wpAny_callSpecial?_slot (name := Str.ofString "__getitem__") ht.typeIs PyProof.Rows.slot_tuple_getitem
    (wpAny_call_entry PyProof.Rows.slot_tuple_getitem ht.typeIs entry_tuple_getitem ?_ (args_tuple_getitem _ _)))
  show wpAny _ _ (Builtin.Tuple.tupleItemsOf (.ref t) >>= _) _ _ s
  refine wpAny_bind (tupleItemsOf_ ht ?_)
  refine wpAny_bind (wpAny_typeOf hTs ?_)
  rw [if_pos (by decide)]
  refine wpAny_bind (sliceApplied_rev hs pl pu ps ?_)
  have hno : ¬ (((((items.size : Nat) : Int) - 1) == 0 && (-1 : Int) == 1 && items.size == items.size) = true) := by
    intro q
    rw [Bool.and_eq_true, Bool.and_eq_true] at q
    exact absurd q.1.2 (by decide)
  show wpAny _ _ (if ((((items.size : Nat) : Int) - 1) == 0 && (-1 : Int) == 1 && items.size == items.size) = true then _ else _) _ _ s
  rw [if_neg hno, pick_rev]
  first
    | exact wpAny_bind (m := Builtin.Tuple.tupleExact _) (wpAny_newObj_type (wpAny_pure ⟨_, rfl, wpAny_pure h⟩) htake)
    | exact wpAny_bind (m := Builtin.Tuple.tupleExact _) (wpAny_newObj_type (wpAny_bind (wpAny_pure (wpAny_pure ⟨_, rfl, wpAny_pure h⟩))) htake)
    | exact wpAny_bind (wpAny_bind (m := Builtin.Tuple.tupleExact _) (wpAny_newObj_type (wpAny_pure (wpAny_pure ⟨_, rfl, wpAny_pure h⟩)) htake))
    | exact wpAny_bind (wpAny_bind (m := Builtin.Tuple.tupleExact _) (wpAny_newObj_type (wpAny_pure ⟨_, rfl, wpAny_pure h⟩) htake))
end
end ZRev
end PySem
namespace L2
open PySem PySem.Spec PyProof.Rows
section
variable {X : Cx}
/-- xs[::-1] of a list or a tuple -/
def tRevA (K : PySem.W.Frag) (te : TE) : TE := fun σ H Q => te σ H fun x H1 => ∃ a xs, x = .ref a ∧ ((SqL K H1 a xs ∧ ∀ p, H1 p = none → Q (.ref p) (upd H1 p (.lst xs.reverse))) ∨ (SqT K H1 a xs ∧ ∀ p, H1 p = none → Q (.ref p) (upd H1 p (.tup xs.reverse))))
theorem pe_revA {e : Expr} {te : TE} {k : Nat} {p1 p2 p3 pos : Pos} (he : PE X e te) : PE X (.Subscript e (.Slice none none (some (.UnaryOp .USub (.Constant (.int 1) k p1) p2)) p3) pos) (tRevA X.K te) := by
  refine ⟨fun pins s σ H Q I h => ?_⟩
  refine Subscript_ (thn (he.run pins s σ H _ I h) fun v s1 ⟨x, H1, I1, r1, q1⟩ => ?_)
  obtain ⟨a, xs, ex, q⟩ := q1
  subst ex
  cases r1
  have hst : PO X (some (.UnaryOp .USub (.Constant (.int 1) k p1) p2)) (tPart (tUn (rU fun i => .int (-i)) (tC (.int 1)))) := po_some (pe_un un_neg pe_int)
  refine wpAny_Slice (thn (po_none.run pins s1 σ H1 (fun o H2 => o = none ∧ H2 = H1) I1 ⟨rfl, rfl⟩) fun vl s2 ⟨l, H2, I2, pl, el, e2⟩ => ?_)
  subst el e2
  refine thn (po_none.run pins s2 σ H2 (fun o H3 => o = none ∧ H3 = H2) I2 ⟨rfl, rfl⟩) fun vu s3 ⟨u, H3, I3, pu, eu, e3⟩ => ?_
  subst eu e3
  refine thn (hst.run pins s3 σ H3 (fun o H4 => o = some (-1) ∧ H4 = H3) I3 ⟨1, rfl, -1, rfl, rfl, rfl⟩) fun vs s4 ⟨o, H4, I4, ps, eo, e4⟩ => ?_
  subst eo e4
  have I5 : Inv X pins σ H4 { s4 with heap := s4.heap.push { cls := .type "slice", data := .fields #[vl, vu, vs] } } := I4.kept (t' := s4.toks) fun b ob q => Heap.get?_push_of_some _ q
  show wpAny (model X.prog X.w) X.A (subscriptTail e (.Slice none none (some (.UnaryOp .USub (.Constant (.int 1) k p1) p2)) p3) (.ref a) (.ref s4.heap.objs.size)) (EP X pins σ Q) X.xe { s4 with heap := s4.heap.push { cls := .type "slice", data := .fields #[vl, vu, vs] } }
  rcases q with ⟨hx, q⟩ | ⟨hx, q⟩
  · obtain ⟨its, r, ht, hz⟩ := I5.list hx
    have hlen := r.length
    refine tail_any (ops := [.ref a, .ref s4.heap.objs.size]) ht.isList.typeIs (PySem.slot_list_getitem.lookup) ?_ (by with_unfolding_all rfl)
    refine wpAny_getItem_list_slice ht.isList (Heap.IsSliceOf.new _ vl vu vs) pl pu ps (by decide) ?_ (by rw [List.size_toArray]; omega)
    rw [PySem.W.krv_pick]
    refine ⟨.ref _, _, I5.laid (t' := s4.toks) (o := .lst xs.reverse) (fun b ob q => Heap.get?_push_of_some _ q) (Nat.le_refl _) ?_, rfl, q _ (I5.hok.fresh (Nat.le_refl _))⟩
    exact ⟨by rw [List.length_reverse]; exact hz, _, 0, r.reverse, Heap.get?_push_size _ rfl⟩
  · obtain ⟨its, r, ht, hz⟩ := I5.tuple hx
    have hlen := r.length
    refine tail_any (ops := [.ref a, .ref s4.heap.objs.size]) ht.typeIs (PyProof.Rows.slot_tuple_getitem.lookup) ?_ (by with_unfolding_all rfl)
    refine PySem.ZRev.getItem_tuple_rev ht (Heap.IsSliceOf.new _ vl vu vs) pl pu ps ?_ (by rw [List.size_toArray]; omega)
    refine ⟨.ref _, _, I5.laid (t' := s4.toks) (o := .tup xs.reverse) (fun b ob q => Heap.get?_push_of_some _ q) (Nat.le_refl _) ?_, rfl, q _ (I5.hok.fresh (Nat.le_refl _))⟩
    exact ⟨by rw [List.length_reverse]; exact hz, its.reverse, r.reverse, IsTup.new _ _⟩
end
end L2

namespace L2
open PySem PySem.Spec PyProof.Rows
section
variable {X : Cx}
/-- sum(t) of a tuple of ints -/
theorem cr_sumT (hc : X.calm = true) : CallR X (.builtin "sum") (fun vs H Q => ∃ (a : Addr) (ns : List Int), vs = [V.ref a] ∧ SqT X.K H a (ns.map V.int) ∧ Q (.int ns.sum) H) := by
  intro pins s σ H vs us Q I r h
  obtain ⟨a, ns, rfl, hs, q⟩ := h
  obtain ⟨its, rv, hl, _⟩ := I.tuple hs
  rw [Vals.ref1 r]
  obtain ⟨xs, e⟩ := rv.ints.allInts.items
  have hn : numsOf (intItems xs).toList = ns := by rw [← e]; exact rv.ints.numsOf
  rw [nums_intItems] at hn
  have hl : s.heap.IsTuple a its.toArray := hl
  rw [e] at hl
  refine PySem.W.ktm_sumG (I.ok.hd hc) hl fun h' tk t' hk => ?_
  rw [preSum_eq, List.take_of_length_le (by simp), hn]
  exact ⟨.int _, H, I.kept hk, ⟨_, rfl⟩, q⟩
/-- l.remove(x) where it is: data of any depth -/
theorem mt_removeD : MtR X "list.remove" (fun x xs H Q => ∃ (l : Addr) (ys : List V) (y : V) (d : PyData) (ds : List PyData) (j : Nat) (z : PyData), x = .ref l ∧ xs = [y] ∧ H l = some (.lst ys) ∧ DpAll X.K H ys ds ∧ Dp X.K H y d ∧
    PyData.plainAll ds = true ∧ d.plain = true ∧ d.depth ≤ 64 ∧ X.A.units + 200 < cLine ∧ ds[j]? = some z ∧ PyData.eqv z d = true ∧ (∀ (m : Nat) (z' : PyData), m < j → ds[m]? = some z' → PyData.eqv z' d = false) ∧ Q .non (upd H l (.lst (ys.eraseIdx j)))) := by
  intro pins s σ H x xs v us Q I rx rxs h
  obtain ⟨l, ys, y, d, ds, j, z, rfl, rfl, hH, hd, hy, pl, pd, hz, hu, hj, hit, hno, q⟩ := h
  cases rx
  cases rxs with
  | cons ry rt =>
    rename_i uy ut
    cases rt
    obtain ⟨bs, r1⟩ := Dp.reads I d y uy hy ry
    obtain ⟨hzl, its, n, rv, hlen, e⟩ := I.lstM hH
    obtain ⟨as, h4⟩ := Dp.readsAll I ds _ its hd rv
    have hn : its.length = ds.length := SeqAt.ReadsAll.length ds its as h4
    have hmap : its.map (SeqAt.readOf s.heap) = ds := SeqAt.readsAll_map_plain ds its as pl h4
    obtain ⟨hjd, _⟩ := List.getElem?_eq_some_iff.mp hj
    have hjl : j < its.length := by omega
    have at_ : ∀ (m : Nat) (hm : m < its.toArray.size) (z' : PyData), ds[m]? = some z' → SeqAt.readOf s.heap its.toArray[m] = z' := by
      intro m hm z' hz'
      have hml : m < its.length := by simpa using hm
      rw [← hmap, List.getElem?_map, List.getElem?_eq_getElem hml] at hz'
      have e1 : SeqAt.readOf s.heap its[m] = z' := Option.some.inj (show some (SeqAt.readOf s.heap its[m]) = some z' from hz')
      simpa using e1
    refine call_meets PySem.F.slot_list_remove ⟨_, e, rfl⟩ PySem.F.entry_list_remove (PySem.F.args_list_remove_2 _ _)
      (SeqAt.list_removeAt l its.toArray n none #[] uy (fun u => PyData.eqv (SeqAt.readOf s.heap u) d) j (by simpa using hjl) ?_ ?_ (by rw [List.size_toArray]; omega)) ⟨e, SeqAt.items_plain (vs := its.toArray) (show ReadsAll s.heap its.toArray.toList ds as from h4) r1 pl pd (by have := Nat.min_le_right (PyData.depthAll ds) d.depth; omega), ?_⟩
    · show PyData.eqv (SeqAt.readOf s.heap its.toArray[j]) d = true
      rw [at_ j (by simpa using hjl) z hj]; exact hit
    · intro m hm hmj
      show PyData.eqv (SeqAt.readOf s.heap its.toArray[m]) d = false
      have hmd : m < ds.length := by have : m < its.length := by simpa using hm
                                     omega
      rw [at_ m hm ds[m] (List.getElem?_eq_getElem hmd)]
      exact hno m _ hmj (List.getElem?_eq_getElem hmd)
    · refine ⟨.non, _, I.lset (its' := its.eraseIdx j) (t' := s.toks) hH e ?_ (rv.eraseIdx j) (Nat.le_trans (len_erase _ _) hzl), rfl, q⟩
      rw [Array.eraseIdxIfInBounds]
      simp [hjl]
end
end L2
end

section
set_option Elab.async false
set_option linter.all false
set_option maxRecDepth 100000
set_option maxHeartbeats 1000000
/-! Z5: built-in functions, isinstance, methods, subscripts by pure values. -/
namespace Z
open PySem L2
def biVal : Bi → Value
  | .len => .builtin "len" | .sum => .builtin "sum" | .all => .builtin "all" | .any => .builtin "any" | .abs => .builtin "abs" | .max => .builtin "max" | .min => .builtin "min" | .sorted => .builtin "sorted"
  | .list => .type "list" | .tuple => .type "tuple" | .int => .type "int" | .str => .type "str"
theorem maxI_le : ∀ (ns : List Int) (m : Int), m ≤ maxI m ns ∧ (∀ y ∈ ns, y ≤ maxI m ns) ∧ (maxI m ns = m ∨ maxI m ns ∈ ns)
  | [], m => ⟨Int.le_refl _, fun _ h => by simp at h, .inl rfl⟩
  | x :: r, m => by
    unfold maxI
    obtain ⟨a, b, c⟩ := maxI_le r (if m < x then x else m)
    split at a <;> rename_i h
    · rw [if_pos h] at b c ⊢
      refine ⟨by omega, fun y hy => ?_, ?_⟩
      · rcases List.mem_cons.mp hy with rfl | hy
        · exact a
        · exact b y hy
      · rcases c with c | c
        · exact .inr (by rw [c]; exact List.mem_cons_self)
        · exact .inr (List.mem_cons_of_mem _ c)
    · rw [if_neg h] at b c ⊢
      refine ⟨by omega, fun y hy => ?_, ?_⟩
      · rcases List.mem_cons.mp hy with rfl | hy
        · omega
        · exact b y hy
      · rcases c with c | c
        · exact .inl c
        · exact .inr (List.mem_cons_of_mem _ c)
theorem minI_le : ∀ (ns : List Int) (m : Int), minI m ns ≤ m ∧ (∀ y ∈ ns, minI m ns ≤ y) ∧ (minI m ns = m ∨ minI m ns ∈ ns)
  | [], m => ⟨Int.le_refl _, fun _ h => by simp at h, .inl rfl⟩
  | x :: r, m => by
    unfold minI
    obtain ⟨a, b, c⟩ := minI_le r (if x < m then x else m)
    split at a <;> rename_i h
    · rw [if_pos h] at b c ⊢
      refine ⟨by omega, fun y hy => ?_, ?_⟩
      · rcases List.mem_cons.mp hy with rfl | hy
        · exact a
        · exact b y hy
      · rcases c with c | c
        · exact .inr (by rw [c]; exact List.mem_cons_self)
        · exact .inr (List.mem_cons_of_mem _ c)
    · rw [if_neg h] at b c ⊢
      refine ⟨by omega, fun y hy => ?_, ?_⟩
      · rcases List.mem_cons.mp hy with rfl | hy
        · omega
        · exact b y hy
      · rcases c with c | c
        · exact .inl c
        · exact .inr (List.mem_cons_of_mem _ c)
theorem max_is {n m : Int} {ns : List Int} (h1 : m ∈ n :: ns) (h2 : ∀ y ∈ n :: ns, y ≤ m) : m = maxI n ns := by
  obtain ⟨a, b, c⟩ := maxI_le ns n
  have l1 : m ≤ maxI n ns := by
    rcases List.mem_cons.mp h1 with rfl | h1
    · exact a
    · exact b m h1
  have l2 : maxI n ns ≤ m := by
    rcases c with c | c
    · rw [c]; exact h2 n List.mem_cons_self
    · exact h2 _ (List.mem_cons_of_mem _ c)
  omega
theorem min_is {n m : Int} {ns : List Int} (h1 : m ∈ n :: ns) (h2 : ∀ y ∈ n :: ns, m ≤ y) : m = minI n ns := by
  obtain ⟨a, b, c⟩ := minI_le ns n
  have l1 : minI n ns ≤ m := by
    rcases List.mem_cons.mp h1 with rfl | h1
    · exact a
    · exact b m h1
  have l2 : m ≤ minI n ns := by
    rcases c with c | c
    · rw [c]; exact h2 n List.mem_cons_self
    · exact h2 _ (List.mem_cons_of_mem _ c)
  omega
section
variable {W : Wd} {cs : List Addr} {H : Hp} {O : Own} {X : Cx} {g : G} {Q : VK} {x y : V}
theorem Rep1.scr {v : V} {l : List Int} (h : Rep1 W cs H O v (.scr l)) : ∃ a, v = .ref a ∧ FL W.K H O a (l.map V.int) ∧ l.length ≤ LIM := by
  rcases h with h | ⟨a, rfl, h⟩
  · cases h with
    | scr h1 h2 => exact ⟨_, rfl, h1, h2⟩
  · exact h.elim
theorem bi_ok (GX : Gx W X) (c : CellsOk W cs H O g) (dom : ∀ a, O a → ∃ o, H a = some o) : ∀ {b : Bi} {v u : PV}, biV b v = some u → Rep1 W cs H O x v → Ans W cs H O g u Q → cW X (biVal b) [x] H Q := by
  intro b v u h hv q
  have hK := GX.K
  unfold biV at h
  split at h
  · cases h
    obtain ⟨a, xs, rfl, h1, h2, h3⟩ := hv.lst
    refine CallR.w call_len_seq ⟨a, xs, rfl, .inl (.of h1), ?_⟩
    rw [h3.length]; exact q.flat c (.int _) trivial
  · cases h
    obtain ⟨a, xs, rfl, h1, h2, h3⟩ := hv.tup
    refine CallR.w call_len_seq ⟨a, xs, rfl, .inr (by rw [hK]; exact h1.sq), ?_⟩
    rw [h3.length]; exact q.flat c (.int _) trivial
  · cases h
    obtain ⟨a, rfl, h1, h2⟩ := hv.scr
    refine CallR.w call_len_seq ⟨a, _, rfl, .inl (by rw [hK]; exact h1.sq), ?_⟩
    rw [List.length_map]; exact q.flat c (.int _) trivial
  · rename_i l
    cases e : intsOf l with
    | none => rw [e] at h; cases h
    | some ns =>
      rw [e] at h
      cases h
      obtain ⟨a, xs, rfl, h1, h2, h3⟩ := hv.lst
      rw [h3.toInts e] at h1
      exact CallR.w (cr_sum GX.calm) ⟨a, ns, rfl, .of h1, q.flat c (.int _) trivial⟩
  · rename_i l
    cases e : intsOf l with
    | none => rw [e] at h; cases h
    | some ns =>
      rw [e] at h
      cases h
      obtain ⟨a, xs, rfl, h1, h2, h3⟩ := hv.tup
      rw [h3.toInts e] at h1
      exact CallR.w (cr_sumT GX.calm) ⟨a, ns, rfl, by rw [hK]; exact h1.sq, q.flat c (.int _) trivial⟩
  · rename_i l
    cases e : blsOf l with
    | none => rw [e] at h; cases h
    | some ns =>
      rw [e] at h
      cases h
      obtain ⟨a, xs, rfl, h1, h2, h3⟩ := hv.lst
      rw [h3.toBls e] at h1
      exact CallR.w (cr_all GX.calm) ⟨a, ns, rfl, .of h1, q.flat c (.bl _) trivial⟩
  · rename_i l
    cases e : blsOf l with
    | none => rw [e] at h; cases h
    | some ns =>
      rw [e] at h
      cases h
      obtain ⟨a, xs, rfl, h1, h2, h3⟩ := hv.lst
      rw [h3.toBls e] at h1
      exact CallR.w (cr_any GX.calm) ⟨a, ns, rfl, .of h1, q.flat c (.bl _) trivial⟩
  · cases h
    exact CallR.w call_abs ⟨_, by rw [hv.int], q.flat c (.int _) trivial⟩
  · rename_i l
    split at h
    · rename_i n ns e
      cases h
      obtain ⟨a, xs, rfl, h1, h2, h3⟩ := hv.lst
      rw [h3.toInts e] at h1
      refine CallR.w (cr_max GX.calm) ⟨a, n :: ns, rfl, .of h1, Nat.zero_lt_succ _, fun m m1 m2 => ?_⟩
      rw [max_is m1 m2]; exact q.flat c (.int _) trivial
    · cases h
  · rename_i l
    split at h
    · rename_i n ns e
      cases h
      obtain ⟨a, xs, rfl, h1, h2, h3⟩ := hv.lst
      rw [h3.toInts e] at h1
      refine CallR.w (cr_min GX.calm) ⟨a, n :: ns, rfl, .of h1, Nat.zero_lt_succ _, fun m m1 m2 => ?_⟩
      rw [min_is m1 m2]; exact q.flat c (.int _) trivial
    · cases h
  · cases h
    obtain ⟨a, xs, rfl, h1, h2, h3⟩ := hv.lst
    exact CallR.w call_list_of ⟨a, xs, rfl, .inl (.of h1), fun p hp => q.lst c dom hp h2 h3⟩
  · cases h
    obtain ⟨a, xs, rfl, h1, h2, h3⟩ := hv.tup
    exact CallR.w call_list_of ⟨a, xs, rfl, .inr (by rw [hK]; exact h1.sq), fun p hp => q.lst c dom hp h2 h3⟩
  · cases h
    obtain ⟨a, rfl, h1, h2⟩ := hv.scr
    exact CallR.w call_list_of ⟨a, _, rfl, .inl (by rw [hK]; exact h1.sq), fun p hp => q.lst c dom hp (by rw [List.length_map]; exact h2) (Reps.ints _)⟩
  · cases h
    obtain ⟨a, xs, rfl, h1, h2, h3⟩ := hv.lst
    exact CallR.w call_tuple_of ⟨a, xs, rfl, .inl ⟨.of h1, fun p hp => q.tup c dom hp h2 h3⟩⟩
  · cases h
    obtain ⟨a, xs, rfl, h1, h2, h3⟩ := hv.tup
    exact CallR.w call_tuple_of ⟨a, xs, rfl, .inr ⟨by rw [hK]; exact h1.sq, q _ _ (.refl _ _) c ⟨.tup h1 h2 h3, trivial⟩⟩⟩
  · cases h
    exact CallR.w call_int1 (.inl ⟨_, by rw [hv.int], q.flat c (.int _) trivial⟩)
  · cases h
    refine CallR.w call_int1 (.inr ⟨_, by rw [hv.bl], ?_⟩)
    exact q.flat c (.int _) trivial
  · cases h
/-! ### isinstance -/
def tyName : Ty → String
  | .int => "int" | .bool => "bool" | .str => "str" | .tuple => "tuple" | .list => "list"
theorem kit_non (t : Ty) : kitB "NoneType" (tyName t) = some false := by cases t <;> decide +kernel
theorem kit_bl (t : Ty) : kitB "bool" (tyName t) = some (decide (t = .bool ∨ t = .int)) := by cases t <;> decide +kernel
theorem kit_int (t : Ty) : kitB "int" (tyName t) = some (decide (t = .int)) := by cases t <;> decide +kernel
theorem kit_str (t : Ty) : kitB "str" (tyName t) = some (decide (t = .str)) := by cases t <;> decide +kernel
theorem kit_tup (t : Ty) : kitB "tuple" (tyName t) = some (decide (t = .tuple)) := by cases t <;> decide +kernel
theorem kit_lst (t : Ty) : kitB "list" (tyName t) = some (decide (t = .list)) := by cases t <;> decide +kernel
theorem isi_ok (GX : Gx W X) (c : CellsOk W cs H O g) : ∀ {t : Ty} {v : PV} {u : Bool}, isiV t v = some u → Rep1 W cs H O x v → Ans W cs H O g (.bl u) Q → cW X (.builtin "isinstance") [x, .ty (tyName t)] H Q := by
  intro t v u h hv q
  have hK := GX.K
  unfold isiV at h
  split at h
  · rename_i t
    cases h
    have e : x = .non := by
      rcases hv with hv | ⟨a, rfl, hv⟩
      · cases hv; rfl
      · exact hv.elim
    subst e
    refine CallR.w call_isi ⟨.non, _, _, _, false, rfl, .ty _, .base .non, ?_, q.flat c (.bl _) trivial⟩
    exact kit_ty (kit_non _)
  · rename_i t b
    cases h
    rw [hv.bl]
    refine CallR.w call_isi ⟨.bl b, _, _, _, _, rfl, .ty _, .base (.bl b), ?_, q.flat c (.bl _) trivial⟩
    exact kit_ty (kit_bl _)
  · rename_i t b
    cases h
    rw [hv.int]
    refine CallR.w call_isi ⟨.int b, _, _, _, _, rfl, .ty _, .base (.int b), ?_, q.flat c (.bl _) trivial⟩
    exact kit_ty (kit_int _)
  · rename_i t b
    cases h
    rw [hv.str]
    refine CallR.w call_isi ⟨.str b, _, _, _, _, rfl, .ty _, .base (.str b), ?_, q.flat c (.bl _) trivial⟩
    exact kit_ty (kit_str _)
  · rename_i t b
    cases h
    obtain ⟨a, xs, rfl, h1, h2, h3⟩ := hv.tup
    have ty : TyX X.K H (.ref a) (.type "tuple") := by
      rcases h1 with ⟨h1 | ⟨o, h1⟩, _⟩ | ⟨o, its, n, e1, e2, _⟩
      · exact .base (.tup h1)
      · exact .fTuple h1
      · exact .kTuple (by rw [hK]; exact e1) e2
    refine CallR.w call_isi ⟨.ref a, _, _, _, _, rfl, .ty _, ty, ?_, q.flat c (.bl _) trivial⟩
    exact kit_ty (kit_tup _)
  · rename_i t b
    cases h
    obtain ⟨a, xs, rfl, h1, h2, h3⟩ := hv.lst
    refine CallR.w call_isi ⟨.ref a, _, _, _, _, rfl, .ty _, .base (.lst h1), ?_, q.flat c (.bl _) trivial⟩
    exact kit_ty (kit_lst _)
  · cases h
/-! ### subscripts -/
abbrev AnsR (W : Wd) (cs : List Addr) (H : Hp) (O : Own) (g : G) (u : PV) (Q : VK) : Prop := ∀ z H', Keep cs H H' → CellsOk W cs H' O g → Rep W cs H' O z u → Q z H'
theorem at_rep {xs : List V} {l : List PV} {i : Int} {u : PV} (r : Reps W cs H O xs l) (h : atI l i = some u) : ∃ z, L2.atI xs i = some z ∧ Rep W cs H O z u := by
  unfold atI L2.atI at h
  unfold L2.atI
  rw [r.length]
  cases e : L2.ixN l.length i with
  | none => rw [e] at h; cases h
  | some j =>
    rw [e] at h
    exact r.get (i := j) h
theorem idx_ok (GX : Gx W X) (c : CellsOk W cs H O g) : ∀ {v w u : PV}, idxV g v w = some u → Rep1 W cs H O x v → Rep1 W cs H O y w → AnsR W cs H O g u Q → (rIxL X.K x y H Q ∨ rIxT X.K x y H Q) := by
  intro v w u h hv hw q
  have hK := GX.K
  unfold idxV at h
  split at h
  · obtain ⟨a, xs, rfl, h1, h2, h3⟩ := hv.lst
    obtain ⟨z, e, r⟩ := at_rep h3 h
    exact .inl ⟨a, xs, _, z, rfl, hw.int, .of h1, e, q z H (.refl _ _) c r⟩
  · obtain ⟨a, xs, rfl, h1, h2, h3⟩ := hv.tup
    obtain ⟨z, e, r⟩ := at_rep h3 h
    exact .inr ⟨a, xs, _, z, rfl, hw.int, by rw [hK]; exact h1.sq, e, q z H (.refl _ _) c r⟩
  · rename_i k i
    split at h
    · rename_i l e
      have hx : ∃ a, x = .ref a ∧ cs[k]? = some a := by
        rcases hv with hv | ⟨a, rfl, hv⟩
        · cases hv with
          | cell hc => exact ⟨_, rfl, hc⟩
        · exact hv.elim
      obtain ⟨a, rfl, hc⟩ := hx
      obtain ⟨xs, h1, h2, h3⟩ : OwnAt W cs H O a (.lst l) := c.con k a _ hc e
      obtain ⟨z, e, r⟩ := at_rep h3 h
      exact .inl ⟨a, xs, _, z, rfl, hw.int, .of h1, e, q z H (.refl _ _) c r⟩
    · cases h
  · cases h
theorem Reps.cut {xs : List V} {l : List PV} (r : Reps W cs H O xs l) (lo hi : Option Int) : Reps W cs H O (cutV xs lo hi) (cut l lo hi) := by
  unfold cutV Z.cut
  rw [r.length]
  exact (r.drop _).take _
theorem cut_whole {α : Type} {xs : List α} {lo hi : Option Int} (h : HT.sIx xs.length 0 lo = 0 ∧ HT.sIx xs.length xs.length hi = xs.length) : Z.cut xs lo hi = xs := by
  unfold Z.cut
  rw [h.1, h.2, List.drop_zero, Nat.sub_zero, List.take_length]
theorem sl_ok (GX : Gx W X) (c : CellsOk W cs H O g) (dom : ∀ a, O a → ∃ o, H a = some o) {lo hi : Option Int} : ∀ {v u : PV}, slV v lo hi = some u → Rep1 W cs H O x v → Ans W cs H O g u Q → (rSlL X.K x lo hi H Q ∨ rSlA X.K x lo hi H Q) := by
  intro v u h hv q
  have hK := GX.K
  unfold slV at h
  split at h
  · cases h
    obtain ⟨a, xs, rfl, h1, h2, h3⟩ := hv.lst
    exact .inl ⟨a, xs, rfl, .of h1, fun p hp => q.lst c dom hp (Nat.le_trans (cutV_length _ _ _) h2) (h3.cut _ _)⟩
  · cases h
    obtain ⟨a, xs, rfl, h1, h2, h3⟩ := hv.tup
    refine .inr ⟨a, xs, rfl, by rw [hK]; exact h1.sq, fun w => ?_, fun _ p hp => q.tup c dom hp (Nat.le_trans (cutV_length _ _ _) h2) (h3.cut _ _)⟩
    rw [h3.length] at w
    rw [cut_whole w] at q
    exact q _ _ (.refl _ _) c ⟨.tup h1 h2 h3, trivial⟩
  · cases h
/-! ### methods -/
theorem place_at (d n : Nat) (x : PV) (hx : x.okd d = true) : ∀ (l : List PV) (s j : Nat), l.all (PV.okd n) = true → placeV x s l = some j → s ≤ j ∧ ∃ z, (PV.toDs l)[j - s]? = some z ∧ PyData.eqv z x.toD = true ∧ ∀ (m : Nat) (z' : PyData), m < j - s → (PV.toDs l)[m]? = some z' → PyData.eqv z' x.toD = false
  | [], _, _, _, h => by simp [placeV] at h
  | y :: r, s, j, ho, h => by
    rw [List.all_cons, Bool.and_eq_true] at ho
    unfold placeV at h
    have e := eqv_toD n d y x ho.1 hx
    split at h
    · rename_i hy
      cases h
      rw [e] at hy
      refine ⟨Nat.le_refl _, y.toD, by rw [Nat.sub_self]; rfl, hy, fun m z' hm => by omega⟩
    · rename_i hy
      rw [e] at hy
      obtain ⟨h1, z, h2, h3, h4⟩ := place_at d n x hx r (s + 1) j ho.2 h
      obtain ⟨k, rfl⟩ : ∃ k, j = s + 1 + k := ⟨j - (s + 1), by omega⟩
      have e1 : s + 1 + k - s = k + 1 := by omega
      have e2 : s + 1 + k - (s + 1) = k := by omega
      rw [e2] at h2 h4
      refine ⟨by omega, z, by rw [e1]; exact h2, h3, fun m z' hm hz => ?_⟩
      rw [e1] at hm
      cases m with
      | zero =>
        have : y.toD = z' := Option.some.inj hz
        subst this
        simpa using hy
      | succ m => exact h4 m z' (by omega) hz
theorem toDs_length : ∀ l : List PV, (PV.toDs l).length = l.length
  | [] => rfl
  | _ :: r => congrArg (· + 1) (toDs_length r)
end
end Z
end

section
set_option Elab.async false
set_option linter.all false
set_option maxRecDepth 100000
set_option maxHeartbeats 1000000
/-! Z6: the check that resolved syntax is the text's; the weakest readings; contexts. -/
namespace Z
open PySem L2

/-! ### looks at the text -/
structure SC where
  N : List Str
  sc : Scope
  fb : Option Scope
def vis (sc : Scope) (x : Str) : Bool := match sc.names.lookup x with
  | some .local => true
  | some .cell => true
  | some .free => true
  | _ => false
def loc (sc : Scope) (x : Str) : Bool := match sc.names.lookup x with
  | some .local => true
  | some .cell => true
  | _ => false
def isLocal (sc : Scope) (x : Str) : Bool := decide (sc.names.lookup x = some .local)
def glb (sc : Scope) (x : Str) : Bool := decide (sc.names.lookup x = some .globalImplicit)
def stoOk (C : SC) (x : Str) : Bool := match C.fb with
  | none => true
  | some s => decide (s.names.lookup x = some .cell) || isLocal C.sc x
def okName (x : Str) : Bool := !(x == ("__debug__" : Str)) && !(x == ("__classdict__" : Str))
def notSet : Expr → Bool
  | .Set .. => false
  | _ => true
def notSlice : Expr → Bool
  | .Slice .. => false
  | _ => true
def notStar : Expr → Bool
  | .Starred .. => false
  | _ => true
def notComp : Expr → Bool
  | .ListComp .. => false
  | .SetComp .. => false
  | .DictComp .. => false
  | _ => true
def notCall0 : Expr → Bool
  | .Call _ [] _ _ => false
  | _ => true
def biName : Bi → Str
  | .len => "len" | .sum => "sum" | .all => "all" | .any => "any" | .abs => "abs" | .max => "max" | .min => "min" | .sorted => "sorted"
  | .list => "list" | .tuple => "tuple" | .int => "int" | .str => "str"
def tyStr : Ty → Str
  | .int => "int" | .bool => "bool" | .str => "str" | .tuple => "tuple" | .list => "list"
def bnames : List Str := ["len", "sum", "all", "any", "abs", "max", "min", "sorted", "list", "tuple", "int", "str", "bool", "isinstance", "range", "zip", "enumerate"]
def cstOk : PV → Const → Bool
  | .non, .none => true
  | .bl b, .bool c => b == c
  | .int i, .int j => decide (i = j)
  | .str s, .str t => decide (s = t)
  | _, _ => false
mutual
def ckT (C : SC) : T → Expr → Bool
  | .nm i, .Name x _ => decide (C.N[i]? = some x) && loc C.sc x && stoOk C x
  | .tp ts, .Tuple es _ _ => ckTs C ts es
  | _, _ => false
def ckTs (C : SC) : List T → List Expr → Bool
  | [], [] => true
  | t :: ts, e :: es => ckT C t e && ckTs C ts es
  | _, _ => false
end
mutual
def slotsT : T → List Nat
  | .nm i => [i]
  | .tp ts => slotsTs ts
def slotsTs : List T → List Nat
  | [] => []
  | t :: ts => slotsT t ++ slotsTs ts
end
def isTup : Expr → Bool
  | .Tuple .. => true
  | _ => false
/-- a comprehension's block: its own names stand at own -/
def ownOf (N : List Str) (own : List Nat) : List (Str × Nat) := own.map fun i => (N.getD i "", i)
def blkB (C : SC) (scope : Scope) (own : List Nat) : Bool :=
  decide (scope.kind = .function) && scope.names.all (fun y => decide (scope.names.lookup y.1 = some y.2)) && own.all (fun i => decide (i < C.N.length)) &&
  scope.names.all (fun y => !decide (y.2 = .free) || (decide (C.sc.names.lookup y.1 = some .cell) || decide (C.sc.names.lookup y.1 = some .free))) &&
  scope.names.all (fun y => !(decide (y.2 = .local) || decide (y.2 = .cell)) || ((ownOf C.N own).any (fun p => decide (p.1 = y.1)) || !C.N.any (fun z => decide (z = y.1))))
def inner (C : SC) (scope : Scope) : SC := ⟨C.N, relS scope C.sc, some scope⟩
def ckL (f : Expr → E → Bool) : List Expr → List E → Bool
  | [], [] => true
  | e :: es, i :: is => f e i && notStar e && ckL f es is
  | _, _ => false
def ckO (f : Expr → E → Bool) : Option Expr → Option E → Bool
  | none, none => true
  | some e, some i => f e i
  | _, _ => false
def ckIf (f : Expr → E → Bool) : List Expr → Option E → Bool
  | [], none => true
  | [e], some i => f e i
  | _, _ => false
def isPk : E → Bool
  | .pk _ => true
  | _ => false
/-- a source that may be one's own -/
def itPk : It → Bool
  | .seq a => isPk a
  | .zip a b => isPk a || isPk b
  | .enum a => isPk a
  | _ => false
def ckIt (f : Expr → E → Bool) (C : SC) (tg iter : Expr) : It → Bool
  | .seq a => f iter a
  | .rng1 a => match iter with
    | .Call (.Name x _) [e] [] _ => decide (x = "range") && glb C.sc x && f e a && notStar e
    | _ => false
  | .rng2 a b => match iter with
    | .Call (.Name x _) [e, e'] [] _ => decide (x = "range") && glb C.sc x && f e a && notStar e && f e' b && notStar e'
    | _ => false
  | .rng3 _ _ _ => false
  | .zip a b => isTup tg && match iter with
    | .Call (.Name x _) [e, e'] [] _ => decide (x = "zip") && glb C.sc x && f e a && notStar e && f e' b && notStar e'
    | _ => false
  | .enum a => isTup tg && match iter with
    | .Call (.Name x _) [e] [] _ => decide (x = "enumerate") && glb C.sc x && f e a && notStar e
    | _ => false
def mtName : Mt → Str
  | .index => "index" | .count => "count"
def ckE (tb : Tab) (fs : List Fd) : Nat → SC → Expr → E → Bool
  | 0, _, _, _ => false
  | m + 1, C, e, ie => match e with
    | .BoolOp _ [a] _ => ckE tb fs m C a ie
    | _ => match ie with
      | .var i => (match e with
        | .Name x _ => decide (C.N[i]? = some x) && vis C.sc x && okName x
        | _ => false)
      | .pk i => (match e with
        | .Name x _ => decide (C.N[i]? = some x) && vis C.sc x && okName x
        | _ => false)
      | .cst c => (match e with
        | .Constant k _ _ => cstOk c k
        | _ => false)
      | .gv k => (match e with
        | .Name x _ => decide ((tb.gl[k]?).map (·.1) = some x) && glb C.sc x && okName x
        | _ => false)
      | .gf k => (match e with
        | .Name x _ => decide ((fs[k]?).map (·.name) = some x) && glb C.sc x && okName x
        | _ => false)
      | .bin o a b => (match e with
        | .BinOp l op r _ => decide (op = bopOf o) && ckE tb fs m C l a && ckE tb fs m C r b
        | _ => false)
      | .neg a => (match e with
        | .UnaryOp op l _ => decide (op = .USub) && ckE tb fs m C l a && !isPk a
        | _ => false)
      | .not a => (match e with
        | .UnaryOp op l _ => decide (op = .Not) && ckE tb fs m C l a && !isPk a
        | _ => false)
      | .and a b => (match e with
        | .BoolOp op (x :: y :: r) p => decide (op = .And) && ckE tb fs m C x a && ckE tb fs m C (.BoolOp op (y :: r) p) b && !isPk a && !isPk b
        | _ => false)
      | .or a b => (match e with
        | .BoolOp op (x :: y :: r) p => decide (op = .Or) && ckE tb fs m C x a && ckE tb fs m C (.BoolOp op (y :: r) p) b && !isPk a && !isPk b
        | _ => false)
      | .cmp o a b => (match e with
        | .Compare l [op] [r] _ => decide (op = copOf o) && ckE tb fs m C l a && ckE tb fs m C r b && notSet r
        | _ => false)
      | .isN a => (match e with
        | .Compare l [op] [.Constant k _ _] _ => decide (op = .Is) && decide (k = .none) && ckE tb fs m C l a && !isPk a
        | _ => false)
      | .isNN a => (match e with
        | .Compare l [op] [.Constant k _ _] _ => decide (op = .IsNot) && decide (k = .none) && ckE tb fs m C l a && !isPk a
        | _ => false)
      | .chain o o' a b c => (match e with
        | .Compare l [op, op'] [r, t] _ => decide (op = copOf o) && decide (op' = copOf o') && ckE tb fs m C l a && ckE tb fs m C r b && ckE tb fs m C t c && notSet t
        | _ => false)
      | .ite c a b => (match e with
        | .IfExp t x y _ => ckE tb fs m C t c && ckE tb fs m C x a && ckE tb fs m C y b && !isPk a && !isPk b
        | _ => false)
      | .call f l => (match e with
        | .Call (.Name x _) args [] _ => decide ((fs[f]?).map (·.name) = some x) && glb C.sc x && okName x && ckL (ckE tb fs m C) args l && l.all (fun i => !isPk i)
        | _ => false)
      | .callv i l => (match e with
        | .Call (.Name x _) args [] _ => decide (C.N[i]? = some x) && vis C.sc x && okName x && ckL (ckE tb fs m C) args l && l.all (fun i => !isPk i) && !args.isEmpty
        | _ => false)
      | .bi b a => (match e with
        | .Call (.Name x _) [l] [] _ => decide (x = biName b) && glb C.sc x && ckE tb fs m C l a && notStar l
        | _ => false)
      | .isi t a => (match e with
        | .Call (.Name x _) [l, .Name y _] [] _ => decide (x = "isinstance") && decide (y = tyStr t) && glb C.sc x && glb C.sc y && ckE tb fs m C l a && notStar l
        | _ => false)
      | .mt k r a => (match e with
        | .Call (.Attribute o x ap) [l] [] cp => decide (x = mtName k) && ckE tb fs m C o r && ckE tb fs m C l a && notStar l && notCall0 o && (ap.endLine == cp.line)
        | _ => false)
      | .idx a i => (match e with
        | .Subscript l s _ => ckE tb fs m C l a && ckE tb fs m C s i && notSlice s
        | _ => false)
      | .sl a lo hi => (match e with
        | .Subscript l (.Slice x y none _) _ => ckE tb fs m C l a && ckO (ckE tb fs m C) x lo && ckO (ckE tb fs m C) y hi
        | _ => false)
      | .rev a => (match e with
        | .Subscript l (.Slice none none (some (.UnaryOp op (.Constant (.int j) _ _) _)) _) _ => decide (op = .USub) && decide (j = 1) && ckE tb fs m C l a
        | _ => false)
      | .tup l => (match e with
        | .Tuple es _ _ => ckL (ckE tb fs m C) es l && l.all (fun i => !isPk i) && decide (l.length ≤ 10000)
        | _ => false)
      | .lst l => (match e with
        | .List es _ => ckL (ckE tb fs m C) es l && l.all (fun i => !isPk i) && decide (l.length ≤ 10000)
        | _ => false)
      | .comp x t it c own => (match e with
        | .ListComp elt [⟨tg, iter, ifs, as⟩] scope _ => decide (as = 0) && ckIt (ckE tb fs m C) C tg iter it && blkB C scope own && notSet iter && ckT (inner C scope) t tg && (slotsT t).all (fun i => own.contains i) &&
            ckIf (ckE tb fs m (inner C scope)) ifs c && ckE tb fs m (inner C scope) elt x && !isPk x
        | _ => false)
      | .comp2 x t it c t' it' c' own own' => (match e with
        | .ListComp elt [⟨tg, iter, ifs, as⟩, ⟨tg', iter', ifs', as'⟩] scope _ => decide (as = 0) && decide (as' = 0) && ckIt (ckE tb fs m C) C tg iter it && blkB C scope own && notSet iter && ckT (inner C scope) t tg &&
            (slotsT t).all (fun i => own.contains i) && ckIf (ckE tb fs m (inner C scope)) ifs c &&
            ckIt (ckE tb fs m (inner C scope)) (inner C scope) tg' iter' it' && notSet iter' && ckT (inner C scope) t' tg' && (slotsT t').all (fun i => own'.contains i) && own'.all (fun i => own.contains i) && ckIf (ckE tb fs m (inner C scope)) ifs' c' &&
            ckE tb fs m (inner C scope) elt x && !isPk x && !itPk it'
        | _ => false)
/-! ### lemmas of the looks -/
theorem star_cons {e : Expr} {es : List Expr} {env : PySem.Env} (h : notStar e = true) : starEach (e :: es) env = (false, eval e env) :: starEach es env := by
  cases e <;> first | rfl | cases h
theorem marks_of {op : CmpOp} {e : Expr} (h : notSet e = true) : behindInMarks op e = false := by
  cases e <;> first | rfl | cases h
theorem fold_of {e : Expr} {env : PySem.Env} (h : notSet e = true) : ∀ x, foldedSetIterable e env x = pure x := by
  intro x
  cases e <;> first | rfl | cases h
theorem plainIx_of {e : Expr} (h : notSlice e = true) : PlainIx e := by
  intro o i
  cases e <;> first | rfl | cases h
theorem base_of {o : Expr} {x : Str} {env : PySem.Env} (h : notCall0 o = true) : attributeBase o x env (eval o env) = eval o env := by
  cases o with
  | Call f args kws pos =>
    cases args with
    | nil => cases h
    | cons a r => cases f <;> rfl
  | _ => rfl
theorem swaps_of {e : Expr} {t : Option Expr} {l : Nat} {env : PySem.Env} (h : notComp e = true) : swapsWith e t l env = pure false := by
  cases e <;> first | rfl | cases h
theorem vis_of {sc : Scope} {x : Str} (h : vis sc x = true) : Vis sc x := by
  unfold vis at h
  split at h
  · rename_i e; exact .inl e
  · rename_i e; exact .inr (.inl e)
  · rename_i e; exact .inr (.inr e)
  · cases h
theorem loc_of {sc : Scope} {x : Str} (h : loc sc x = true) : Loc sc x := by
  unfold loc at h
  split at h
  · rename_i e; exact .inl e
  · rename_i e; exact .inr e
  · cases h
theorem okName_1 {x : Str} (h : okName x = true) : (x == ("__debug__" : Str)) = false := by
  unfold okName at h
  rw [Bool.and_eq_true] at h
  simpa using h.1
theorem okName_2 {x : Str} (h : okName x = true) : (x == ("__classdict__" : Str)) = false := by
  unfold okName at h
  rw [Bool.and_eq_true] at h
  simpa using h.2
theorem plain_args {es : List Expr} {env : PySem.Env} {pos : Pos} (h : ∀ e ∈ es, notStar e = true) : (backTo pos (starEach es env)).any (·.1) = false := by
  induction es with
  | nil => rfl
  | cons e es ih =>
    rw [star_cons (h e List.mem_cons_self)]
    show (false || (backTo pos (starEach es env)).any (·.1)) = false
    rw [ih fun e' he => h e' (List.mem_cons_of_mem _ he)]
    rfl
theorem ckL_star {f : Expr → E → Bool} : ∀ {es : List Expr} {is : List E}, ckL f es is = true → ∀ e ∈ es, notStar e = true
  | [], _, _, e, he => by simp at he
  | _ :: _, [], h, _, _ => by simp [ckL] at h
  | a :: es, i :: is, h, e, he => by
    simp only [ckL, Bool.and_eq_true] at h
    rcases List.mem_cons.mp he with rfl | he
    · exact h.1.2
    · exact ckL_star h.2 e he
theorem blk_of {C : SC} {scope : Scope} {own : List Nat} (h : blkB C scope own = true) : BlkOk C.N C.sc scope (ownOf C.N own) := by
  unfold blkB at h
  rw [Bool.and_eq_true, Bool.and_eq_true, Bool.and_eq_true, Bool.and_eq_true] at h
  obtain ⟨⟨⟨⟨h1, h2⟩, h3⟩, h4⟩, h5⟩ := h
  rw [List.all_eq_true] at h2 h3 h4 h5
  refine ⟨of_decide_eq_true h1, fun y hy => of_decide_eq_true (h2 y hy), fun p hp => ?_, fun y hy e => ?_, fun y hy e => ?_⟩
  · obtain ⟨i, hi, rfl⟩ := List.mem_map.mp hp
    have : i < C.N.length := of_decide_eq_true (h3 i hi)
    show C.N[i]? = some (C.N.getD i "")
    rw [List.getD_eq_getElem?_getD, List.getElem?_eq_getElem this]
    rfl
  · have := h4 y hy
    rw [Bool.or_eq_true, Bool.or_eq_true] at this
    rcases this with z | z | z
    · rw [decide_eq_true e] at z; cases z
    · exact .inl (of_decide_eq_true z)
    · exact .inr (of_decide_eq_true z)
  · have := h5 y hy
    rw [Bool.or_eq_true, Bool.or_eq_true] at this
    rcases this with z | z | z
    · rcases e with e | e
      · rw [decide_eq_true e] at z; simp at z
      · rw [decide_eq_true e] at z; simp at z
    · rw [List.any_eq_true] at z
      obtain ⟨p, hp, e2⟩ := z
      exact .inl (List.mem_map.mpr ⟨p, hp, of_decide_eq_true e2⟩)
    · refine .inr fun hm => ?_
      have : C.N.any (fun z => decide (z = y.1)) = true := List.any_eq_true.mpr ⟨_, hm, decide_eq_true rfl⟩
      rw [this] at z; cases z
theorem ownOf_snd (N : List Str) (own : List Nat) : (ownOf N own).map (·.2) = own := by
  unfold ownOf
  rw [List.map_map]
  exact (List.map_congr_left fun _ _ => rfl).trans (List.map_id _)
end Z
end

section
set_option Elab.async false
set_option linter.all false
set_option maxRecDepth 100000
set_option maxHeartbeats 1000000
/-! Z7: the weakest readings, contexts, calls, targets, what is walked. -/
namespace Z
open PySem L2

section
variable (X : Cx)
def eW (e : Expr) : TE := fun σ H Q => ∀ (pins : List (Addr × Obj)) (s : Shared), Inv X pins σ H s → wpAny (model X.prog X.w) X.A (eval e X.env) (EP X pins σ Q) X.xe s
def tW (e : Expr) : TT := fun σ H Q => ∀ (pins : List (Addr × Obj)) (s : Shared), Inv X pins σ H s → wpAny (model X.prog X.w) X.A (isTrue e X.env (eval e X.env)) (TP X pins σ Q) X.xe s
def aW (es : List Expr) : TA := fun σ H Q => ∀ (pos : Pos) (pins : List (Addr × Obj)) (s : Shared), Inv X pins σ H s → wpAny (model X.prog X.w) X.A (spliced (backTo pos (starEach es X.env))) (AP X pins σ Q) X.xe s
def oW (e : Option Expr) : TO := fun σ H Q => ∀ (pins : List (Addr × Obj)) (s : Shared), Inv X pins σ H s →
    wpAny (model X.prog X.w) X.A (evalPart e X.env) (fun u s' => ∃ o H', Inv X pins σ H' s' ∧ IsPart u o ∧ Q o H') X.xe s
def iW (tg iter : Expr) : TI := fun σ H R => ∀ (pins : List (Addr × Obj)) (s : Shared), Inv X pins σ H s →
    wpAny (model X.prog X.w) X.A (eval iter X.env) (fun v s1 => wpAny (model X.prog X.w) X.A (pyIter v) (PIE X pins σ tg R) X.xe s1) X.xe s
def gW (e : Expr) : TG := fun v σ H Q => ∀ (pins : List (Addr × Obj)) (s : Shared) (u : Value), Inv X pins σ H s → RelV v u →
    wpAny (model X.prog X.w) X.A (assign e X.env u) (fun _ s' => ∃ σ' H', Inv X pins σ' H' s' ∧ Q σ' H') X.xe s
def gsW (es : List Expr) : TGs := fun vs σ H Q => ∀ (pins : List (Addr × Obj)) (s : Shared) (us : List Value), Inv X pins σ H s → Vals vs us →
    wpAny (model X.prog X.w) X.A (assignInOrder ((assignEach es X.env).map (·.2)) us) (fun _ s' => ∃ σ' H', Inv X pins σ' H' s' ∧ Q σ' H') X.xe s
def ifW (es : List Expr) : TT := fun σ H Q => ∀ (pins : List (Addr × Obj)) (s : Shared), Inv X pins σ H s →
    wpAny (model X.prog X.w) X.A (forIn es true fun c r => if r = true then do let ok ← isTrue c X.env (eval c X.env); pure (ForInStep.yield ok) else pure (ForInStep.yield r)) (TP X pins σ Q) X.xe s
end
section
variable {X : Cx} {e tg : Expr} {es : List Expr} {σ : L2.St} {H : Hp}
theorem pe_w : PE X e (eW X e) := ⟨fun pins s _ _ _ I h => h pins s I⟩
theorem pt_w : PT X e (tW X e) := ⟨fun pins s _ _ _ I h => h pins s I⟩
theorem pa_w : PA X es (aW X es) := ⟨fun pos pins s _ _ _ I h => h pos pins s I⟩
theorem po_w {o : Option Expr} : PO X o (oW X o) := ⟨fun pins s _ _ _ I h => h pins s I⟩
theorem pi_w : PI X tg e (iW X tg e) := ⟨fun pins s _ _ _ I h => h pins s I⟩
theorem pg_w : PG X e (gW X e) := ⟨fun pins s _ _ _ u _ I r h => h pins s u I r⟩
theorem pgs_w : PGs X es (gsW X es) := ⟨fun pins s _ _ _ us _ I r h => h pins s us I r⟩
theorem pts_w : PTs X es (ifW X es) := ⟨fun pins s _ _ _ I h => h pins s I⟩
theorem PE.w {t : TE} {Q : VK} (h : PE X e t) (q : t σ H Q) : eW X e σ H Q := fun pins s I => h.run pins s σ H Q I q
theorem PT.w {t : TT} {Q : Bool → Hp → Prop} (h : PT X e t) (q : t σ H Q) : tW X e σ H Q := fun pins s I => h.run pins s σ H Q I q
theorem PA.w {t : TA} {Q : List V → Hp → Prop} (h : PA X es t) (q : t σ H Q) : aW X es σ H Q := fun pos pins s I => h.run pos pins s σ H Q I q
theorem PO.w {o : Option Expr} {t : TO} {Q : Option Int → Hp → Prop} (h : PO X o t) (q : t σ H Q) : oW X o σ H Q := fun pins s I => h.run pins s σ H Q I q
theorem PI.w {t : TI} {Q : L2.It → Hp → Prop} (h : PI X tg e t) (q : t σ H Q) : iW X tg e σ H Q := fun pins s I => h.run pins s σ H Q I q
theorem PG.w {t : TG} {v : V} {Q : L2.St → Hp → Prop} (h : PG X e t) (q : t v σ H Q) : gW X e v σ H Q := fun pins s u I r => h.run pins s σ H v u Q I r q
theorem PGs.w {t : TGs} {v : List V} {Q : L2.St → Hp → Prop} (h : PGs X es t) (q : t v σ H Q) : gsW X es v σ H Q := fun pins s u I r => h.run pins s σ H v u Q I r q
theorem PTs.w {t : TT} {Q : Bool → Hp → Prop} (h : PTs X es t) (q : t σ H Q) : ifW X es σ H Q := fun pins s I => h.run pins s σ H Q I q
end

/-- what a def promises: what the interpreter's call says -/
def spF (W : Wd) (cf : CF) (k : Nat) (f : Fd) : Sp := fun vs H Q _ => ∃ (cs : List Addr) (O : Own) (ps : List PV) (g g' : G) (pv : PV), cf k ps g = some (.v pv, g') ∧ Reps W cs H O vs ps ∧ ps.length = f.par ∧ CellsOk W cs H O g ∧ (∀ a, O a → ∃ o, H a = some o) ∧
  ∀ z H', Keep cs H H' → CellsOk W cs H' O g' → Rep W cs H' O z pv → (f.fresh = true → NewV W cs H H' O z pv) → Q z H'
/-- the defs as they are at one depth of calls -/
structure FnsOk (W : Wd) (fs : List Fd) (cf : CF) (d : Nat) (P : Program) (w : World) (mg : Str → Option Value) (base : Heap) : Prop where
  at_ : ∀ (k : Nat) (f : Fd), fs[k]? = some f → k < W.nf ∧ mg f.name = some (.ref (W.fa k)) ∧ PySem.W.keepIn W.K (.ref (W.fa k)) = true ∧
    ∃ (fd : FuncData) (ps : List Str), ps.length = f.par ∧ FnOk P w W.K mg base (fun _ _ _ _ _ _ => False) d (W.fa k) fd ps (spF W cf k f) ∧ Binds W.K fd ps []
  /-- a call of what is no def, or with another number of arguments, gives nothing -/
  no : ∀ (k : Nat) (ps : List PV) (g g' : G) (pv : PV), cf k ps g = some (.v pv, g') → ∃ f, fs[k]? = some f ∧ ps.length = f.par
structure Good (W : Wd) (tb : Tab) (fs : List Fd) (cf : CF) (d : Nat) (C : SC) (X : Cx) : Prop where
  gx : Gx W X
  N : X.N = C.N
  nd : C.N.Nodup
  sc : X.env.scope = C.sc
  fn : ∀ x, stoOk C x = true → X.fn x = true ∨ X.env.scope.names.lookup x = some .local
  gl : ∀ (k : Nat) (x : Str) (v : PV), tb.gl[k]? = some (x, v) → ∃ u w, X.mg x = some u ∧ RelV w u ∧ ∀ cs H O, Rep W cs H O w v
  bl : ∀ x ∈ bnames, X.mg x = none
  room : Room d X.A
  fns : FnsOk W fs cf d X.prog X.w X.mg X.base

section
variable {W : Wd} {tb : Tab} {fs : List Fd} {cf : CF} {d : Nat} {C : SC} {X : Cx}
theorem Good.vis (G : Good W tb fs cf d C X) {x : Str} (h : vis C.sc x = true) : Vis X.env.scope x := by rw [G.sc]; exact vis_of h
theorem Good.loc (G : Good W tb fs cf d C X) {x : Str} (h : loc C.sc x = true) : Loc X.env.scope x := by rw [G.sc]; exact loc_of h
theorem Good.glb (G : Good W tb fs cf d C X) {x : Str} (h : glb C.sc x = true) : Gl X x := by
  show X.env.scope.names.lookup x = _
  rw [G.sc]; exact of_decide_eq_true h
theorem Good.ix (G : Good W tb fs cf d C X) {x : Str} {i : Nat} (h : decide (C.N[i]? = some x) = true) : X.N[i]? = some x := by rw [G.N]; exact of_decide_eq_true h
/-- the context of a comprehension's block -/
theorem Good.blk (G : Good W tb fs cf d C X) {scope : Scope} (s : Shared) (H : Hp) (Ca : Addr) (cl : List (Str × Addr)) (fp : List Addr) :
    Good W tb fs cf d (inner C scope) (X.blk s H scope (compEnvC scope cl Ca X.env) fp) where
  gx := ⟨G.gx.K, G.gx.calm, G.gx.un⟩
  N := G.N
  nd := G.nd
  sc := by
    show relS scope X.env.scope = relS scope C.sc
    rw [G.sc]
  fn := fun x h => by
    have h : (decide (scope.names.lookup x = some .cell) || isLocal (relS scope C.sc) x) = true := h
    rw [Bool.or_eq_true] at h
    rcases h with h | h
    · exact .inl (by show (scope.names.lookup x == some NameKind.cell) = true; rw [of_decide_eq_true h]; rfl)
    · refine .inr ?_
      show (relS scope X.env.scope).names.lookup x = _
      rw [G.sc]
      exact of_decide_eq_true h
  gl := G.gl
  bl := G.bl
  room := G.room
  fns := G.fns
/-- a call of a def by values -/
theorem Good.call (GO : Good W tb fs cf d C X) {k : Nat} {f : Fd} {vs : List V} {ps : List PV} {cs : List Addr} {O : Own} {H : Hp} {g g' : G} {pv : PV} {Q : VK} (hf : fs[k]? = some f) (h : cf k ps g = some (.v pv, g'))
    (r : Reps W cs H O vs ps) (c : CellsOk W cs H O g) (dom : ∀ a, O a → ∃ o, H a = some o)
    (q : ∀ z H', Keep cs H H' → CellsOk W cs H' O g' → Rep W cs H' O z pv → (f.fresh = true → NewV W cs H H' O z pv) → Q z H') : cW X (.ref (W.fa k)) vs H Q := by
  obtain ⟨_, _, _, fd, ns, hl, F, B⟩ := GO.fns.at_ k f hf
  obtain ⟨f', hf', hp⟩ := GO.fns.no k ps g g' pv h
  rw [hf] at hf'; cases hf'
  intro pins s σ us I rv
  have F' : FnOk X.prog X.w X.K X.mg X.base (fun _ _ _ _ _ _ => False) d (W.fa k) fd ns (spF W cf k f) := by rw [GO.gx.K]; exact F
  refine run_fn (E := fun _ _ _ => False) F' GO.room (by rw [GO.gx.K]; exact B) .nil (fun _ _ _ _ _ _ _ z => z.elim) I rv ?_
  rw [List.append_nil]
  exact ⟨cs, O, ps, g, g', pv, h, r, hp, c, dom, q⟩
/-- f(..) of a def -/
theorem pe_callW {k : Nat} {x : Str} {p pos : Pos} {e : Expr} {es : List Expr} (hg : Gl X x) (hm : X.mg x = some (.ref (W.fa k))) (hk : PySem.W.keepIn X.K (.ref (W.fa k)) = true) (hdb : (x == ("__debug__" : Str)) = false) (hs : ∀ a ∈ e :: es, notStar a = true) :
    PE X (.Call (.Name x p) (e :: es) [] pos) (fun σ H Q => aW X (e :: es) σ H fun vs H1 => cW X (.ref (W.fa k)) vs H1 Q) := by
  refine ⟨fun pins s σ H Q I h => ?_⟩
  refine wpAny_Call_Name_kw (ld_glob I hg hm ?_ hdb)
  refine PySem.W.callWith_K (h₀ := X.base) I.ok.mod.kin hk (thn (h pos pins s I) fun us s1 ⟨vs, H1, I1, r, q⟩ => ⟨I1.kIn, ?_⟩) (star_cons (hs e List.mem_cons_self)) (plain_args fun a ha => hs a (List.mem_cons_of_mem _ ha))
  exact q pins s1 σ us I1 r
theorem pe_callW0 {k : Nat} {x : Str} {p pos : Pos} (hg : Gl X x) (hm : X.mg x = some (.ref (W.fa k))) (hk : PySem.W.keepIn X.K (.ref (W.fa k)) = true) (hdb : (x == ("__debug__" : Str)) = false) :
    PE X (.Call (.Name x p) [] [] pos) (fun σ H Q => cW X (.ref (W.fa k)) [] H Q) := by
  refine ⟨fun pins s σ H Q I h => ?_⟩
  refine wpAny_Call_Name_kw (ld_glob I hg hm ?_ hdb)
  exact PySem.W.callWith_K0 I.kIn hk (h pins s σ [] I .nil)
/-- f(..), f a local that holds a def -/
theorem pe_callV {k i : Nat} {x : Str} {p pos : Pos} {e : Expr} {es : List Expr} (hN : X.N[i]? = some x) (hv : Vis X.env.scope x) (hk : PySem.W.keepIn X.K (.ref (W.fa k)) = true) (hn : okName x = true) (hs : ∀ a ∈ e :: es, notStar a = true) :
    PE X (.Call (.Name x p) (e :: es) [] pos) (fun σ H Q => σ[i]? = some (some (.ref (W.fa k))) ∧ aW X (e :: es) σ H fun vs H1 => cW X (.ref (W.fa k)) vs H1 Q) := by
  refine ⟨fun pins s σ H Q I h => ?_⟩
  obtain ⟨hσ, ht⟩ := h
  refine wpAny_Call_Name_kw (thn ((pe_var (pos := p) hN hv (okName_1 hn) (okName_2 hn)).run pins s σ H (fun v H1 => v = .ref (W.fa k) ∧ H1 = H) I ⟨_, hσ, rfl, rfl⟩) fun u s1 ⟨v, H1, I1, r1, q1⟩ => ?_)
  obtain ⟨rfl, rfl⟩ := q1
  cases r1
  refine PySem.W.callWith_K (h₀ := X.base) I.ok.mod.kin hk (thn (ht pos pins s1 I1) fun us s2 ⟨vs, H2, I2, r, q⟩ => ⟨I2.kIn, ?_⟩) (star_cons (hs e List.mem_cons_self)) (plain_args fun a ha => hs a (List.mem_cons_of_mem _ ha))
  exact q pins s2 σ us I2 r
end
end Z
end

section
set_option Elab.async false
set_option linter.all false
set_option maxRecDepth 100000
set_option maxHeartbeats 2000000
/-! Z8: enumerate and zip over lists and tuples alike. -/
namespace PySem
theorem zmeets_enumerate_new {v : Value} {o : Obj} {H : Heap → Prop} (B : Begins v o H) :
    Meets (Builtin.«enumerate.__new__» ⟨[.type "enumerate", v], []⟩) (fun _ R s => H s.heap ∧
      R (.ok (.ret (.ref (s.heap.push o).objs.size))) { s with heap := (s.heap.push o).push { cls := .type "enumerate", data := .fields #[.none, .bool false, .ref s.heap.objs.size, rawInt 0, .none, .none] } }) :=
  .of_wp fun prog w A R s h => by
    obtain ⟨hp, g, d, tk, os⟩ := s; obtain ⟨h1, h⟩ := h
    have hsub := sub_enumerate
    have q1 : ∀ {A' : Around} {E : Value → Shared → Prop} {Q : Value → Shared → Prop}, Q (.ref hp.objs.size) ⟨hp.push o, g, d, tk, os⟩ → wpAny (model prog w) A' (pyIter v) Q E ⟨hp, g, d, tk, os⟩ :=
      fun q => B.iter prog w _ _ ⟨hp, g, d, tk, os⟩ _ h1 q
    wp_walk using q1
    refine wpAny_stack_any fun st => wpAny_pure ?_
    split
    · rename_i c _ _ _ _ _
      cases (c == Value.type "enumerate")
      · wp_walk using q1
        exact ⟨_, rfl, h⟩
      · wp_walk using q1
        exact ⟨_, rfl, h⟩
    · wp_walk using q1
      exact ⟨_, rfl, h⟩
theorem zenum_begins {prog : Program} {w : World} {A : Around} {E : Value → Shared → Prop} {s : Shared} {v : Value} {o : Obj} {H : Heap → Prop} {Q : Value → Shared → Prop} (B : Begins v o H) (h1 : H s.heap)
    (h : ∀ h', IsEnum h' (s.heap.objs.size + 1) s.heap.objs.size 0 .none → h'.get? s.heap.objs.size = some o → h'.objs.size = s.heap.objs.size + 2 →
      (∀ b o, s.heap.get? b = some o → h'.get? b = some o) → Q (.ref (s.heap.objs.size + 1)) { s with heap := h' }) :
    wpAny (model prog w) A (call (.type "enumerate") [v]) Q E s := by
  refine callType_new F.called_enumerate (by decide) (F.typeCall_enumerate_1 _) (F.newCall_enumerate_1 _) (fun obj => F.args_object_init_2 obj _) F.entry_enumerate_new
    (zmeets_enumerate_new B) ⟨h1, ?_⟩
  have hz : (s.heap.push o).objs.size = s.heap.objs.size + 1 := Heap.size_push ..
  show _ ∧ _
  rw [hz]
  have he : IsEnum ((s.heap.push o).push { cls := .type "enumerate", data := .fields #[.none, .bool false, .ref s.heap.objs.size, rawInt 0, .none, .none] }) (s.heap.objs.size + 1) s.heap.objs.size 0 .none := by
    have := Heap.get?_push_size (s.heap.push o) (o := { cls := .type "enumerate", data := .fields #[.none, .bool false, .ref s.heap.objs.size, rawInt 0, .none, .none] }) rfl
    rw [hz] at this; exact this
  refine ⟨⟨_, he, rfl⟩, h _ he (Heap.get?_push_of_some _ (Heap.get?_push_size _ B.free)) (by rw [Heap.size_push, hz]) fun b o x => Heap.get?_push_of_some _ (Heap.get?_push_of_some _ x)⟩
end PySem
namespace Z
open PySem PySem.Spec PyProof.Rows L2

/-- of kind k: a list, a tuple -/
def Sq (K : PySem.W.Frag) (k : Bool) (H : Hp) (a : Addr) (xs : List V) : Prop := match k with | true => SqL K H a xs | false => SqT K H a xs
def IsIt (k : Bool) (h : Heap) (it a : Addr) (i : Nat) : Prop := match k with | true => h.IsListIter it a i | false => h.IsTupleIter it a i
def IsSq (k : Bool) (h : Heap) (a : Addr) (its : Array Value) : Prop := match k with | true => h.IsList a its | false => h.IsTuple a its
def itObj (k : Bool) (a : Addr) : Obj := match k with | true => { cls := .type "list_iterator", data := .fields #[.ref a, .int 0 0] } | false => { cls := .type "tuple_iterator", data := .fields #[.ref a, .int 0 0] }
theorem begins_sq (k : Bool) (a : Addr) (its : Array Value) : Begins (.ref a) (itObj k a) (fun h => IsSq k h a its) := by
  cases k with
  | true => exact begins_list a its
  | false => exact begins_tuple a its
theorem draws_sq {prog : Program} {w : World} {A : Around} (hh : A.handled = none) (k : Bool) (it a : Addr) (hne : a ≠ it) (its : Array Value) :
    Draws prog w A it [it, a] its.size (fun i v => its[i]? = some v) (fun i h => IsIt k h it a i ∧ IsSq k h a its) := by
  cases k with
  | true => exact Draws.list hh it a hne its
  | false => exact Draws.tuple hh it a hne its
theorem isIt_obj {k : Bool} {h : Heap} {it a : Addr} {i : Nat} (t : IsIt k h it a i) : ∃ o, h.get? it = some o ∧ ∀ v, o.data ≠ .cell v := by
  cases k with
  | true => obtain ⟨o, ho, hc, hd⟩ := t; exact ⟨o, ho, fun v q => by rw [hd] at q; cases q⟩
  | false => obtain ⟨o, ho, hc, hd⟩ := t; exact ⟨o, ho, fun v q => by rw [hd] at q; cases q⟩
theorem isIt_at {k : Bool} {h h' : Heap} {it a : Addr} {i : Nat} (t : IsIt k h it a i) (e : ∀ o, h.get? it = some o → h'.get? it = some o) : IsIt k h' it a i := by
  cases k with
  | true => obtain ⟨o, ho, r⟩ := t; exact ⟨o, e o ho, r⟩
  | false => obtain ⟨o, ho, r⟩ := t; exact ⟨o, e o ho, r⟩
theorem isIt_new {k : Bool} {h : Heap} {it a : Addr} (e : h.get? it = some (itObj k a)) : IsIt k h it a 0 := by
  cases k with
  | true => exact ⟨_, e, rfl, rfl⟩
  | false => exact ⟨_, e, rfl, rfl⟩
section
variable {X : Cx} {pins : List (Addr × Obj)} {σ : L2.St} {H : Hp} {s : Shared}
theorem Inv.sq {k : Bool} {a : Addr} {xs : List V} (I : Inv X pins σ H s) (h : Sq X.K k H a xs) : ∃ its : List Value, Vals xs its ∧ IsSq k s.heap a its.toArray ∧ a < s.heap.objs.size := by
  cases k with
  | true =>
    obtain ⟨its, rv, p, _⟩ := I.list h
    exact ⟨its, rv, p.isList, p.lt⟩
  | false =>
    obtain ⟨its, rv, p, _⟩ := I.tuple h
    obtain ⟨o, ho, _⟩ := id p
    exact ⟨its, rv, p, Heap.lt_size ho⟩
theorem Inv.sq_inj {k : Bool} {a : Addr} {xs ys : List V} (I : Inv X pins σ H s) (h : Sq X.K k H a xs) (h' : Sq X.K k H a ys) : xs = ys := by
  cases k with
  | true => exact I.list_inj h h'
  | false => exact I.tuple_inj h h'
end
def ItZ (K : PySem.W.Frag) (k k' : Bool) (a b : Addr) : L2.It :=
  ⟨fun i H => ∃ (xs ys : List V) (x y : V), Sq K k H a xs ∧ Sq K k' H b ys ∧ xs[i]? = some x ∧ ys[i]? = some y,
    fun i H v H' => ∃ T x y, v = .ref T ∧ H T = none ∧ H' = upd H T (.tup [x, y]) ∧ (∀ xs, Sq K k H a xs → xs[i]? = some x) ∧ ∀ ys, Sq K k' H b ys → ys[i]? = some y,
    fun i H => ∃ xs ys : List V, Sq K k H a xs ∧ Sq K k' H b ys ∧ i = min xs.length ys.length⟩
def ItN (K : PySem.W.Frag) (k : Bool) (a : Addr) : L2.It :=
  ⟨fun i H => ∃ (xs : List V) (x : V), Sq K k H a xs ∧ xs[i]? = some x, fun i H v H' => ∃ T x, v = .ref T ∧ H T = none ∧ H' = upd H T (.tup [.int (i : Nat), x]) ∧ ∀ xs, Sq K k H a xs → xs[i]? = some x, fun i H => ∃ xs : List V, Sq K k H a xs ∧ i = xs.length⟩
theorem turn_zipG {P : Program} {w : World} {K : PySem.W.Frag} {elts : List Expr} {kk : Nat} {tpos : Pos} {k k' : Bool} {a b z TI TO i1 i2 : Addr} (D : ZipApart z TI TO i1 i2 a b) (S : ZipSep2 z TI TO i1 i2 [i1, a] [i2, b]) (ha : a ≠ i1) (hb : b ≠ i2) :
    Turn P w K (.Tuple elts kk tpos) (ItZ K k k' a b) [z, TI, TO, i1, i2] z (fun i h => IsZip h z TI TO .none ∧ IsTupOf2 h TI (.ref i1) (.ref i2) ∧ (∃ x y, IsTupOf2 h TO x y) ∧ IsIt k h i1 a i ∧ IsIt k' h i2 b i) where
  mem := by simp
  obj := fun i h st c hc => by
    obtain ⟨hz, hTI, ⟨x, y, hTO⟩, h1, h2⟩ := st
    have e' : c = z ∨ c = TI ∨ c = TO ∨ c = i1 ∨ c = i2 := by simpa using hc
    rcases e' with q | q | q | q | q
    · rw [q]; exact ⟨_, hz, fun v q => nomatch q⟩
    · rw [q]; exact ⟨_, hTI, fun v q => nomatch q⟩
    · rw [q]; exact ⟨_, hTO, fun v q => nomatch q⟩
    · rw [q]; exact isIt_obj h1
    · rw [q]; exact isIt_obj h2
  keep := fun i h h' st k => by
    obtain ⟨hz, hTI, ⟨x, y, hTO⟩, h1, h2⟩ := st
    exact ⟨k z (by simp) _ hz, k TI (by simp) _ hTI, ⟨x, y, k TO (by simp) _ hTO⟩, isIt_at h1 fun o q => k i1 (by simp) o q, isIt_at h2 fun o q => k i2 (by simp) o q⟩
  item := by
    intro X hP hw hK hc i pins s σ H E I hf st hg
    subst hP hw hK
    obtain ⟨hz, hTI, ⟨x0, y0, hTO⟩, h1, h2⟩ := st
    obtain ⟨xs, ys, x, y, hqx, hqy, hx, hy⟩ := hg
    obtain ⟨its, rv, p, _⟩ := Inv.sq I hqx
    obtain ⟨its2, rv2, p2, _⟩ := Inv.sq I hqy
    obtain ⟨u, hu, ru⟩ := rv.get hx
    obtain ⟨u2, hu2, ru2⟩ := rv2.get hy
    have hzl : z < s.heap.objs.size := Heap.lt_size hz
    have hd : X.A.in1.handled = none := I.ok.hd hc
    have l1 : i < its.toArray.size := by
      rw [List.size_toArray]; exact (List.getElem?_eq_some_iff.mp hu).1
    have l2 : i < its2.toArray.size := by
      rw [List.size_toArray]; exact (List.getElem?_eq_some_iff.mp hu2).1
    refine wpAny_pyNext_zipD2_item S (draws_sq hd k i1 a ha its.toArray) (draws_sq hd k' i2 b hb its2.toArray) hz hTI hTO ⟨h1, p⟩ ⟨h2, p2⟩ l1 l2 fun x1 x2 h' tk' e1 e2 z' TO' st1 st2 hT hsz hk => ?_
    have e1 : u = x1 := by
      have e1 : its[i]? = some x1 := by simpa using e1
      rw [hu] at e1; exact Option.some.inj e1
    have e2 : u2 = x2 := by
      have e2 : its2[i]? = some x2 := by simpa using e2
      rw [hu2] at e2; exact Option.some.inj e2
    subst e1 e2
    refine ⟨_, rfl, wpAny_letOwnedTupleGo_zip (s := { s with heap := h', toks := tk' }) z' fun h'' z'' sb => ?_⟩
    have hT2 : h''.get? s.heap.objs.size = some { cls := .type "tuple", data := .seq #[u, u2] } := (sb.2 _ (Nat.ne_of_gt hzl)).trans hT
    have new : ObjOk X.prog X.w (upd H s.heap.objs.size (.tup [x, y])) h'' s.heap.objs.size (.tup [x, y]) :=
      ⟨by show 2 ≤ sizeLine; decide, [u, u2], .cons ru (.cons ru2 .nil), ⟨_, hT2, rfl, _, rfl⟩⟩
    have I1 : Inv X pins σ (upd H s.heap.objs.size (.tup [x, y])) { s with heap := h'', toks := tk' } :=
      I.turnedNew (t' := tk') (ch := [z, TI, TO, i1, i2]) (fun c o hb q => (sb.2 c (fun q' => hb (by simp [q']))).trans (hk c o (fun q' => hb (by simp [q'])) (fun q' => hb (by simp [q'])) (fun q' => hb (by simp [q'])) (fun q' => hb (by simp [q'])) q)) hf (Nat.le_refl _) new
    refine ⟨.ref s.heap.objs.size, _, I1, rfl, ⟨_, x, y, rfl, I.hok.fresh (Nat.le_refl _), rfl, fun l hl => by rw [Inv.sq_inj I hl hqx]; exact hx, fun l hl => by rw [Inv.sq_inj I hl hqy]; exact hy⟩, ⟨z'', ?_, ⟨u, u2, ?_⟩, ?_, ?_⟩, fun c hcm => ?_⟩
    · exact (sb.2 _ D.TIz).trans (hk _ _ D.TIz D.TITO D.TIi1 D.TIi2 hTI)
    · exact (sb.2 _ D.TOz).trans TO'
    · exact isIt_at st1.1 fun o q => (sb.2 _ D.i1z).trans q
    · exact isIt_at st2.1 fun o q => (sb.2 _ D.i2z).trans q
    · have hlt : c < s.heap.objs.size := by
        have e' : c = z ∨ c = TI ∨ c = TO ∨ c = i1 ∨ c = i2 := by simpa using hcm
        rcases e' with q | q | q | q | q
        · rw [q]; exact hzl
        · rw [q]; exact Heap.lt_size hTI
        · rw [q]; exact Heap.lt_size hTO
        · rw [q]; obtain ⟨_, e1, _⟩ := isIt_obj h1; exact Heap.lt_size e1
        · rw [q]; obtain ⟨_, e2, _⟩ := isIt_obj h2; exact Heap.lt_size e2
      rw [upd_ne (Nat.ne_of_lt hlt)]
      exact (hf c hcm).1
  done := by
    intro X hP hw hK hc i pins s σ H E I hf st hg
    subst hP hw hK
    obtain ⟨hz, hTI, ⟨x0, y0, hTO⟩, h1, h2⟩ := st
    obtain ⟨xs, ys, hqx, hqy, hend⟩ := hg
    obtain ⟨its, rv, p, _⟩ := Inv.sq I hqx
    obtain ⟨its2, rv2, p2, _⟩ := Inv.sq I hqy
    have l1 := rv.length
    have l2 := rv2.length
    have hd : X.A.in1.handled = none := I.ok.hd hc
    have s1 : its.toArray.size = xs.length := by rw [List.size_toArray]; omega
    have s2 : its2.toArray.size = ys.length := by rw [List.size_toArray]; omega
    exact wpAny_pyNext_zipD2_end S (draws_sq hd k i1 a ha its.toArray) (draws_sq hd k' i2 b hb its2.toArray) hz hTI hTO ⟨h1, p⟩ ⟨h2, p2⟩ (by omega) (by omega) (by omega) fun h' tk' hk => ⟨rfl, I.turnedL (t' := tk') (ch := [z, TI, TO, i1, i2]) (fun c o hb q =>
      hk c o (fun q' => hb (by simp [q'])) (fun q' => hb (by simp [q'])) (fun q' => hb (by simp [q'])) (fun q' => hb (by simp [q'])) q) hf⟩
  self := fun A i s Q E st h => wpAny_pyIter_zip st.1 h
theorem turn_enumG {P : Program} {w : World} {K : PySem.W.Frag} {elts : List Expr} {kk : Nat} {tpos : Pos} {k : Bool} (a e it : Addr) (hai : a ≠ it) (hae : a ≠ e) :
    Turn P w K (.Tuple elts kk tpos) (ItN K k a) [e, it] e (fun i h => (∃ old, IsEnum h e it ((i : Nat) : Int) old) ∧ IsIt k h it a i ∧ e ≠ it) where
  mem := by simp
  obj := fun i h st b hb => by
    obtain ⟨⟨old, he⟩, hi, _⟩ := st
    have e' : b = e ∨ b = it := by simpa using hb
    rcases e' with z | z
    · rw [z]; exact ⟨_, he, fun v q => nomatch q⟩
    · rw [z]; exact isIt_obj hi
  keep := fun i h h' st k => let ⟨⟨old, he⟩, hi, hne⟩ := st; ⟨⟨old, k e (by simp) _ he⟩, isIt_at hi fun o q => k it (by simp) o q, hne⟩
  item := by
    intro X hP hw hK hc i pins s σ H E I hf st hg
    subst hP hw hK
    obtain ⟨⟨old, he⟩, hit, hne⟩ := st
    obtain ⟨xs, x, hq, hx⟩ := hg
    obtain ⟨its, rv, p, hal⟩ := Inv.sq I hq
    obtain ⟨u, hu, ru⟩ := rv.get hx
    have hel : e < s.heap.objs.size := Heap.lt_size he
    have hil : it < s.heap.objs.size := by obtain ⟨_, q, _⟩ := isIt_obj hit; exact Heap.lt_size q
    have hd : X.A.in1.handled = none := I.ok.hd hc
    have l1 : i < its.toArray.size := by
      rw [List.size_toArray]; exact (List.getElem?_eq_some_iff.mp hu).1
    refine wpAny_pyNext_enum_itemD (draws_sq hd k it a hai its.toArray) he ⟨hit, p⟩ l1 hne (by simp only [List.mem_cons, List.not_mem_nil, or_false, not_or]; exact ⟨hne, Ne.symm hae⟩) fun x1 h' tk' e1 ho hit' hT hsz hk => ?_
    have e1 : u = x1 := by
      have e1 : its[i]? = some x1 := by simpa using e1
      rw [hu] at e1; exact Option.some.inj e1
    subst e1
    refine ⟨_, rfl, wpAny_letOwnedTupleGo_enum (s := { s with heap := h', toks := tk' + 1 }) ho fun h'' he' sb => ?_⟩
    have hT2 : h''.get? s.heap.objs.size = some { cls := .type "tuple", data := .seq #[.int i tk', u] } := (sb.2 _ (Nat.ne_of_gt hel)).trans hT
    have new : ObjOk X.prog X.w (upd H s.heap.objs.size (.tup [.int (i : Nat), x])) h'' s.heap.objs.size (.tup [.int (i : Nat), x]) :=
      ⟨by show 2 ≤ sizeLine; decide, [.int i tk', u], .cons ⟨_, rfl⟩ (.cons ru .nil), ⟨_, hT2, rfl, _, rfl⟩⟩
    have I1 : Inv X pins σ (upd H s.heap.objs.size (.tup [.int (i : Nat), x])) { s with heap := h'', toks := tk' + 1 } :=
      I.turnedNew (ch := [e, it]) (fun b ob hb q => (sb.2 b (fun z => hb (by simp [z]))).trans (hk b ob (fun z => hb (by simp [z])) (fun z => hb (by simp [z])) q)) hf (Nat.le_refl _) new
    refine ⟨.ref s.heap.objs.size, _, I1, rfl, ⟨_, x, rfl, I.hok.fresh (Nat.le_refl _), rfl, fun ys hy => by rw [Inv.sq_inj I hy hq]; exact hx⟩, ⟨⟨u, ?_⟩, isIt_at hit'.1 fun o q => (sb.2 it (Ne.symm hne)).trans q, hne⟩, fun b hb => ?_⟩
    · have e1 : ((i + 1 : Nat) : Int) = (i : Int) + 1 := by omega
      rw [e1]; exact he'
    · have hb' : b < s.heap.objs.size := by
        have e' : b = e ∨ b = it := by simpa using hb
        rcases e' with z | z
        · rw [z]; exact hel
        · rw [z]; exact hil
      rw [upd_ne (Nat.ne_of_lt hb')]
      exact (hf b hb).1
  done := by
    intro X hP hw hK hc i pins s σ H E I hf st hg
    subst hP hw hK
    obtain ⟨⟨old, he⟩, hit, hne⟩ := st
    obtain ⟨xs, hq, hx⟩ := hg
    obtain ⟨its, rv, p, hz⟩ := Inv.sq I hq
    obtain ⟨f0, f1, f2, f3, f4, f5⟩ := hf it (by simp)
    have hl := rv.length
    have hd : X.A.in1.handled = none := I.ok.hd hc
    have s1 : i = its.toArray.size := by rw [List.size_toArray]; omega
    subst s1
    exact wpAny_pyNext_enum_endD (draws_sq hd k it a hai its.toArray) he ⟨hit, p⟩ fun h' eb => ⟨rfl, I.turned (t' := s.toks) (fun b o hb q => eb b o hb q) f0 f1 f3 f4 f5⟩
  self := fun A i s Q E st h => let ⟨⟨_, he⟩, _⟩ := st; wpAny_pyIter_enum he h
def iZipG (K : PySem.W.Frag) (ta : TA) : TI := fun σ H R => ta σ H fun vs H1 => ∃ a b k k' xs ys, vs = [.ref a, .ref b] ∧ Sq K k H1 a xs ∧ Sq K k' H1 b ys ∧ R (ItZ K k k' a b) H1
theorem pi_zipG {X : Cx} {e e2 : Expr} {ta : TA} {p pos tpos : Pos} {elts : List Expr} {kk : Nat} (hg : Gl X "zip") (hm : X.mg "zip" = none) (ha : PA X [e, e2] ta)
    (hs : starEach [e, e2] X.env = (false, eval e X.env) :: starEach [e2] X.env) (hpl : (backTo pos (starEach [e2] X.env)).any (·.1) = false) :
    PI X (.Tuple elts kk tpos) (.Call (.Name "zip" p) [e, e2] [] pos) (iZipG X.K ta) := by
  refine ⟨fun pins s σ H R I h => ?_⟩
  refine Call_ (ld_blt I hg hm PyProof.Rows.boot_zip (PyProof.Rows.callWith_type1 (thn (ha.run pos pins s σ H _ I h) fun us s1 ⟨vs, H1, I1, r1, q1⟩ => ?_) hs hpl))
  obtain ⟨a, b, k, k', xs, ys, ex, hqx, hqy, q⟩ := q1
  subst ex
  cases r1 with
  | cons r rr =>
    cases rr with
    | cons r' rr =>
      cases rr
      cases r
      cases r'
      obtain ⟨its, rv, p1, la⟩ := Inv.sq I1 hqx
      obtain ⟨its2, rv2, p2, lb⟩ := Inv.sq I1 hqy
      refine zip_begins2 (begins_sq k a its.toArray) (begins_sq k' b its2.toArray) p1 p2 fun h' hz hTI hTO h1 h2 hsz hk => wpAny_pyIter_zip hz ?_
      have I2 : Inv X pins σ H1 { s1 with heap := h' } := I1.kept (t' := s1.toks) hk
      have A1 : ZipSep2 (s1.heap.objs.size + 4) (s1.heap.objs.size + 2) (s1.heap.objs.size + 3) s1.heap.objs.size (s1.heap.objs.size + 1) (s1.heap.objs.size :: [a]) ((s1.heap.objs.size + 1) :: [b]) := zip_sep2 (fun c hc => by rw [List.mem_singleton.mp hc]; exact la) (fun c hc => by rw [List.mem_singleton.mp hc]; exact lb)
      refine ⟨s1.heap.objs.size + 4, [s1.heap.objs.size + 4, s1.heap.objs.size + 2, s1.heap.objs.size + 3, s1.heap.objs.size, s1.heap.objs.size + 1], _, _, H1, rfl, I2, turn_zipG (PySem.W.ktu_apart s1.heap.objs.size a b la lb) A1 (Nat.ne_of_lt la) (Nat.ne_of_lt (Nat.lt_succ_of_lt lb)), ⟨hz, hTI, ⟨_, _, hTO⟩, isIt_new h1, isIt_new h2⟩, fun c hcm => ?_, q⟩
      have e' : c = s1.heap.objs.size + 4 ∨ c = s1.heap.objs.size + 2 ∨ c = s1.heap.objs.size + 3 ∨ c = s1.heap.objs.size ∨ c = s1.heap.objs.size + 1 := by simpa using hcm
      have hle : s1.heap.objs.size ≤ c := by
        rcases e' with z | z | z | z | z
        · rw [z]; exact Nat.le_add_right _ _
        · rw [z]; exact Nat.le_add_right _ _
        · rw [z]; exact Nat.le_add_right _ _
        · rw [z]; exact Nat.le_refl _
        · rw [z]; exact Nat.le_add_right _ _
      exact I1.fpOk hle (I1.hok.fresh hle)
def iEnumG (K : PySem.W.Frag) (ta : TA) : TI := fun σ H R => ta σ H fun vs H1 => ∃ a k xs, vs = [.ref a] ∧ Sq K k H1 a xs ∧ R (ItN K k a) H1
theorem pi_enumG {X : Cx} {e : Expr} {ta : TA} {p pos tpos : Pos} {elts : List Expr} {kk : Nat} (hg : Gl X "enumerate") (hm : X.mg "enumerate" = none) (ha : PA X [e] ta) (hs : starEach [e] X.env = [(false, eval e X.env)]) :
    PI X (.Tuple elts kk tpos) (.Call (.Name "enumerate" p) [e] [] pos) (iEnumG X.K ta) := by
  refine ⟨fun pins s σ H R I h => ?_⟩
  refine Call_ (ld_blt I hg hm boot_enumerate (PyProof.Rows.callWith_type1 (thn (ha.run pos pins s σ H _ I h) fun us s1 ⟨vs, H1, I1, r1, q1⟩ => ?_) hs rfl))
  obtain ⟨a, k, xs, ex, hq, q⟩ := q1
  subst ex
  cases r1 with
  | cons r rr =>
    cases rr
    cases r
    obtain ⟨its, rv, p', la⟩ := Inv.sq I1 hq
    refine zenum_begins (begins_sq k a its.toArray) p' fun h' he hit hsz hk => wpAny_pyIter_enum he ?_
    have I2 : Inv X pins σ H1 { s1 with heap := h' } := I1.kept (t' := s1.toks) hk
    refine ⟨s1.heap.objs.size + 1, [s1.heap.objs.size + 1, s1.heap.objs.size], _, _, H1, rfl, I2, turn_enumG a (s1.heap.objs.size + 1) s1.heap.objs.size (Nat.ne_of_lt la) (Nat.ne_of_lt (Nat.lt_succ_of_lt la)), ⟨⟨.none, he⟩, isIt_new hit, Nat.succ_ne_self _⟩, fun b hb => ?_, q⟩
    have e' : b = s1.heap.objs.size + 1 ∨ b = s1.heap.objs.size := by simpa using hb
    have hle : s1.heap.objs.size ≤ b := by
      rcases e' with z | z
      · rw [z]; exact Nat.le_add_right _ _
      · rw [z]; exact Nat.le_refl _
    exact I1.fpOk hle (I1.hok.fresh hle)
theorem walk_zipG {K : PySem.W.Frag} {k k' : Bool} {a b : Addr} {xs ys : List V} : Walk (ItZ K k k' a b) (min xs.length ys.length) (fun H => Sq K k H a xs ∧ Sq K k' H b ys) (YPair (fun i => xs[i]?) (fun i => ys[i]?)) := by
  refine ⟨fun i _ hi q => ?_, fun _ q => ⟨xs, ys, q.1, q.2, rfl⟩, fun i H v H' _ q y => ?_⟩
  · have h1 : i < xs.length := by omega
    have h2 : i < ys.length := by omega
    exact ⟨xs, ys, xs[i], ys[i], q.1, q.2, by simp [h1], by simp [h2]⟩
  · obtain ⟨T, x, z, h1, h2, h3, h4, h5⟩ := y
    exact ⟨T, x, z, h1, h2, h3, h4 xs q.1, h5 ys q.2⟩
theorem walk_enumG {K : PySem.W.Frag} {k : Bool} {a : Addr} {xs : List V} : Walk (ItN K k a) xs.length (fun H => Sq K k H a xs) (YPair (fun i => some (.int (i : Nat))) (fun i => xs[i]?)) := by
  refine ⟨fun i _ hi q => ⟨xs, xs[i], q, by simp [hi]⟩, fun _ q => ⟨xs, q, rfl⟩, fun i H v H' _ q y => ?_⟩
  obtain ⟨T, x, h1, h2, h3, h4⟩ := y
  exact ⟨T, .int (i : Nat), x, h1, h2, h3, rfl, h4 xs q⟩
end Z
end

section
set_option Elab.async false
set_option linter.all false
set_option maxRecDepth 100000
set_option maxHeartbeats 1000000
/-! Z9: targets, sources of turns, states that grow. -/
namespace Z
open PySem L2

theorem bd_v {α β : Type} {r : R α} {f : α → G → R β} {b : β} {g' : G} (h : bd r f = some (.v b, g')) : ∃ a g1, r = some (.v a, g1) ∧ f a g1 = some (.v b, g') := by
  unfold bd at h
  split at h
  · cases h
  · cases h
  · exact ⟨_, _, rfl, h⟩
theorem lf_v {α : Type} {o : Option α} {g g' : G} {a : α} (h : lf o g = some (.v a, g')) : o = some a ∧ g' = g := by
  unfold lf at h
  split at h
  · cases h
  · cases h; exact ⟨rfl, rfl⟩
theorem rt_v {α : Type} {a b : α} {g g' : G} (h : rt a g = some (.v b, g')) : a = b ∧ g' = g := by
  unfold rt at h
  cases h; exact ⟨rfl, rfl⟩
theorem nx0_v {α : Type} {r : R α} {b : α} {g' : G} (h : nx0 r = some (.v b, g')) : r = some (.v b, g') := by
  unfold nx0 at h
  split at h
  · cases h; rfl
  · cases h

section
variable {W : Wd} {cs : List Addr} {H H' : Hp} {O B : Own} {σ : L2.St} {ρ : Env} {g g' : G}
/-- a value that may be read at its top, and stands while cells change -/
def Rep2 (W : Wd) (cs : List Addr) (H : Hp) (O : Own) (v : V) (p : PV) : Prop := Rep W cs H O v p ∨ ∃ a, v = .ref a ∧ a ∉ cs ∧ OwnAt W cs H O a p
theorem Rep2.one {v : V} {p : PV} (h : Rep2 W cs H O v p) : Rep1 W cs H O v p := h.elim .inl fun ⟨a, e, _, h⟩ => .inr ⟨a, e, h⟩
theorem Rep2.keep {v : V} {p : PV} (h : Rep2 W cs H O v p) (k : Keep cs H H') (c : CellsOk W cs H O g) : Rep2 W cs H' O v p := by
  rcases h with h | ⟨a, e, n, h⟩
  · exact .inl (k.rep c h)
  · exact .inr ⟨a, e, n, k.own c n h⟩
/-- what an expression's answer is -/
structure EAns (W : Wd) (cs : List Addr) (H H' : Hp) (O : Own) (pk fr : Bool) (z : V) (pv : PV) : Prop where
  r2 : Rep2 W cs H' O z pv
  rep : pk = false → Rep W cs H' O z pv
  new : fr = true → NewV W cs H H' O z pv
theorem EAns.post {pk fr : Bool} {z : V} {pv : PV} (p : Post W cs H H' O z pv) : EAns W cs H H' O pk fr z pv := ⟨.inl p.rep, fun _ => p.rep, fun _ => p.new⟩
theorem EAns.plain {pk : Bool} {z : V} {pv : PV} (p : Rep W cs H' O z pv) : EAns W cs H H' O pk false z pv := ⟨.inl p, fun _ => p, fun h => by cases h⟩
theorem Keep.none {p : Addr} (k : Keep cs H H') (h : H' p = none) : H p = none := by
  cases e : H p with
  | none => rfl
  | some o =>
    obtain ⟨o', e'⟩ := k.dom p o e
    rw [h] at e'; cases e'
theorem NewV.mono {H0 : Hp} {z : V} : ∀ {pv : PV}, NewV W cs H H' O z pv → Keep cs H0 H → NewV W cs H0 H' O z pv := by
  intro pv h k
  cases pv with
  | lst l =>
    obtain ⟨p, xs, e, h1, h2⟩ := h
    exact ⟨p, xs, e, k.none h1, h2⟩
  | dic l => exact h
  | _ => trivial
theorem EAns.mono {H0 : Hp} {pk fr : Bool} {z : V} {pv : PV} (a : EAns W cs H H' O pk fr z pv) (k : Keep cs H0 H) : EAns W cs H0 H' O pk fr z pv := ⟨a.r2, a.rep, fun h => (a.new h).mono k⟩
/-- a new address to own -/
theorem RS.grow {D : Addr} (r : RS W cs H O B σ ρ g) (k : Keep cs H H') (hD : H D = none) (hd : ∃ o, H' D = some o) (c : CellsOk W cs H' (fun a => O a ∨ a = D) g') : RS W cs H' (fun a => O a ∨ a = D) (fun a => B a ∨ a = D) σ ρ g' where
  len := r.len
  at_ := fun i s hs => by
    have x : Ext H O H' (fun a => O a ∨ a = D) := ⟨fun a o e n => ⟨k.at_ a o e fun z => n (r.cells.sub a z), fun z => z.elim n (ne_of_none e hD)⟩⟩
    have h := r.at_ i s hs
    cases s with
    | no => trivial
    | val p => obtain ⟨v, e, h⟩ := h; exact ⟨v, e, h.ext (.refl _) x⟩
    | own p =>
      obtain ⟨a, e, h1, h2, h3, h4⟩ := h
      have ne : a ≠ D := fun z => by
        obtain ⟨o, q⟩ := r.dom a h1
        rw [z, hD] at q; cases q
      exact ⟨a, e, .inl h1, fun z => z.elim h2 ne, h3, h4.ext (.refl _) x fun o e => k.at_ a o e h3⟩
  dis := r.dis
  cells := c
  dom := fun a h => by
    rcases h with h | h
    · obtain ⟨o, e⟩ := r.dom a h
      exact k.dom a o e
    · rw [h]; exact hd
  bo := fun a h => h.elim (fun h => .inl (r.bo a h)) .inr
/-- what changed is cells or of outside -/
theorem RS.keepL {L : List Addr} (r : RS W cs H O B σ ρ g) (k : Keep L H H') (hL : ∀ a ∈ L, O a ∧ (a ∈ cs ∨ B a)) (c : CellsOk W cs H' O g') : RS W cs H' O B σ ρ g' where
  len := r.len
  at_ := fun i s hs => by
    have x : Ext H O H' O := ⟨fun a o e n => ⟨k.at_ a o e fun z => n (hL a z).1, n⟩⟩
    have h := r.at_ i s hs
    cases s with
    | no => trivial
    | val p => obtain ⟨v, e, h⟩ := h; exact ⟨v, e, h.ext (.refl _) x⟩
    | own p =>
      obtain ⟨a, e, h1, h2, h3, h4⟩ := h
      exact ⟨a, e, h1, h2, h3, h4.ext (.refl _) x fun o e => k.at_ a o e fun z => (hL a z).2.elim h3 h2⟩
  dis := r.dis
  cells := c
  dom := fun a h => by
    obtain ⟨o, e⟩ := r.dom a h
    exact k.dom a o e
  bo := r.bo
theorem CellsOk.ext {O' : Own} (c : CellsOk W cs H O g) (e : Ext H O H' O') (k : ∀ a ∈ cs, ∀ o, H a = some o → H' a = some o) (s : ∀ a ∈ cs, O' a) : CellsOk W cs H' O' g :=
  ⟨c.len, c.nd, s, fun i a p h1 h2 => (c.con i a p h1 h2).ext (.refl _) e (k a (List.mem_of_getElem? h1)), c.fl⟩
/-! ### wiping -/
theorem wipe_get : ∀ {σ : L2.St} {vs : List Nat} {j : Nat}, (wipe σ vs)[j]? = if j ∈ vs ∧ j < σ.length then some none else σ[j]?
  | σ, [], j => by simp [wipe]
  | σ, v :: vs, j => by
    unfold wipe
    by_cases h : v = j
    · subst h
      by_cases hl : v < σ.length
      · rw [List.getElem?_set_self (by rw [wipe_length]; exact hl), if_pos ⟨List.mem_cons_self, hl⟩]
      · rw [if_neg fun z => hl z.2, List.getElem?_eq_none (by rw [List.length_set, wipe_length]; omega), List.getElem?_eq_none (by omega)]
    · rw [List.getElem?_set_ne h, wipe_get (σ := σ) (vs := vs)]
      have : (j ∈ v :: vs ∧ j < σ.length) ↔ (j ∈ vs ∧ j < σ.length) := by
        rw [List.mem_cons]
        exact ⟨fun z => ⟨z.1.resolve_left (Ne.symm h), z.2⟩, fun z => ⟨.inr z.1, z.2⟩⟩
      by_cases q : j ∈ vs ∧ j < σ.length
      · rw [if_pos q, if_pos (this.mpr q)]
      · rw [if_neg q, if_neg fun z => q (this.mp z)]
theorem wipe_set {i : Nat} {v : Option V} {vs : List Nat} (h : i ∈ vs) : wipe (σ.set i v) vs = wipe σ vs := by
  apply List.ext_getElem?
  intro j
  rw [wipe_get, wipe_get, List.length_set]
  by_cases q : j ∈ vs ∧ j < σ.length
  · rw [if_pos q, if_pos q]
  · rw [if_neg q, if_neg q]
    by_cases e : i = j
    · subst e
      have : σ.length ≤ i := by
        rcases Nat.lt_or_ge i σ.length with z | z
        · exact absurd ⟨h, z⟩ q
        · exact z
      rw [List.getElem?_eq_none (by rw [List.length_set]; exact this), List.getElem?_eq_none this]
    · rw [List.getElem?_set_ne e]
theorem wipe_wipe {vs ws : List Nat} (h : ∀ i ∈ ws, i ∈ vs) : wipe (wipe σ ws) vs = wipe σ vs := by
  apply List.ext_getElem?
  intro j
  rw [wipe_get, wipe_get, wipe_get, wipe_length]
  by_cases q : j ∈ vs ∧ j < σ.length
  · rw [if_pos q, if_pos q]
  · rw [if_neg q, if_neg q, if_neg fun z => q ⟨h j z.1, z.2⟩]
end
/-! ### targets -/
theorem ckT_each : ∀ {C : SC} {ts : List T} {es : List Expr} {env : PySem.Env}, ckTs C ts es = true → (assignEach es env).length = ts.length ∧ (assignEach es env).findIdx? (·.1) = none ∧ es.length = ts.length
  | C, [], [], env, _ => ⟨rfl, rfl, rfl⟩
  | C, t :: ts, e :: es, env, h => by
    simp only [ckTs, Bool.and_eq_true] at h
    obtain ⟨a, b, c⟩ := ckT_each (env := env) h.2
    have q : assignEach (e :: es) env = (false, assign e env) :: assignEach es env := by
      cases e <;> first | rfl | (cases t <;> simp [ckT] at h)
    rw [q]
    refine ⟨congrArg (· + 1) a, ?_, congrArg (· + 1) c⟩
    rw [List.findIdx?_cons]
    simp only [Bool.false_eq_true, if_false, b, Option.map_none]
  | C, [], _ :: _, env, h => by simp [ckTs] at h
  | C, _ :: _, [], env, h => by simp [ckTs] at h
theorem ckT_cons {C : SC} {t : T} {e : Expr} {es : List Expr} {env : PySem.Env} (h : ckT C t e = true) : assignEach (e :: es) env = (false, assign e env) :: assignEach es env := by
  cases e <;> first | rfl | (cases t <;> simp [ckT] at h)
section
variable {W : Wd} {tb : Tab} {fs : List Fd} {cf : CF} {d : Nat} {C : SC} {X : Cx} {cs : List Addr} {H : Hp} {O B : Own} {g : G}
mutual
theorem tgt_ok (GO : Good W tb fs cf d C X) : ∀ (t : T) {e : Expr} {v : V} {pv : PV} {σ : L2.St} {ρ ρ' : Env} {Q : L2.St → Hp → Prop}, ckT C t e = true → Rep W cs H O v pv → RS W cs H O B σ ρ g → bindT t pv ρ = some ρ' →
    (∀ σ', RS W cs H O B σ' ρ' g → (∀ vs : List Nat, (∀ i ∈ slotsT t, i ∈ vs) → wipe σ' vs = wipe σ vs) → Q σ' H) → gW X e v σ H Q
  | .nm i, e, v, pv, σ, ρ, ρ', Q, hc, hr, r, hb, q => by
    cases e with
    | Name x p =>
      simp only [ckT, Bool.and_eq_true] at hc
      obtain ⟨⟨h1, h2⟩, h3⟩ := hc
      unfold bindT at hb
      split at hb
      · rename_i hi
        cases hb
        refine PG.w (pg_name (by rw [GO.N]; exact GO.nd) (GO.ix h1) (GO.loc h2) (GO.fn _ h3)) ?_
        exact q _ (r.put hi hr) fun vs hvs => wipe_set (hvs i (by simp [slotsT]))
      · cases hb
    | _ => simp [ckT] at hc
  | .tp ts, e, v, pv, σ, ρ, ρ', Q, hc, hr, r, hb, q => by
    cases e with
    | Tuple es k p =>
      simp only [ckT] at hc
      cases pv with
      | tup l =>
        simp only [bindT] at hb
        obtain ⟨a, xs, rfl, h1, h2, h3⟩ : ∃ a xs, v = .ref a ∧ FT W.K H O a xs ∧ xs.length ≤ LIM ∧ Reps W cs H O xs l := by
          cases hr with
          | tup h1 h2 h3 => exact ⟨_, _, rfl, h1, h2, h3⟩
        obtain ⟨e1, e2, e3⟩ := ckT_each (env := X.env) hc
        refine PG.w (pg_tup (n := ts.length) GO.gx.calm (pgs_w (es := es)) e1 e2) ?_
        refine ⟨a, xs, rfl, by rw [GO.gx.K]; exact h1.sq, ?_, tgts_ok GO ts hc h3 r hb fun σ' r' hw => q σ' r' fun vs hvs => hw vs hvs⟩
        rw [h3.length]
        exact bindTs_len ts l ρ ρ' hb
      | _ => simp [bindT] at hb
    | _ => simp [ckT] at hc
theorem tgts_ok (GO : Good W tb fs cf d C X) : ∀ (ts : List T) {es : List Expr} {vs : List V} {pvs : List PV} {σ : L2.St} {ρ ρ' : Env} {Q : L2.St → Hp → Prop}, ckTs C ts es = true → Reps W cs H O vs pvs → RS W cs H O B σ ρ g → bindTs ts pvs ρ = some ρ' →
    (∀ σ', RS W cs H O B σ' ρ' g → (∀ ws : List Nat, (∀ i ∈ slotsTs ts, i ∈ ws) → wipe σ' ws = wipe σ ws) → Q σ' H) → gsW X es vs σ H Q
  | [], es, vs, pvs, σ, ρ, ρ', Q, hc, hr, r, hb, q => by
    cases es with
    | nil =>
      cases pvs with
      | nil =>
        cases hr
        simp only [bindTs] at hb
        cases hb
        exact PGs.w pgs_nil ⟨rfl, q σ r fun _ _ => rfl⟩
      | cons _ _ => simp [bindTs] at hb
    | cons _ _ => simp [ckTs] at hc
  | t :: ts, es, vs, pvs, σ, ρ, ρ', Q, hc, hr, r, hb, q => by
    cases es with
    | nil => simp [ckTs] at hc
    | cons e es =>
      simp only [ckTs, Bool.and_eq_true] at hc
      cases pvs with
      | nil => simp [bindTs] at hb
      | cons p ps =>
        cases hr with
        | cons hr1 hr2 =>
          simp only [bindTs] at hb
          split at hb
          · rename_i ρ1 hb1
            refine PGs.w (pgs_cons (pg_w (e := e)) (pgs_w (es := es)) (by rw [ckT_cons hc.1]; rfl)) ⟨_, _, rfl, ?_⟩
            refine tgt_ok GO t hc.1 hr1 r hb1 fun σ1 r1 w1 => tgts_ok GO ts hc.2 hr2 r1 hb fun σ2 r2 w2 => q σ2 r2 fun ws hws => ?_
            rw [w2 ws fun i hi => hws i (by simp only [slotsTs, List.mem_append]; exact .inr hi), w1 ws fun i hi => hws i (by simp only [slotsTs, List.mem_append]; exact .inl hi)]
          · cases hb
theorem bindTs_len : ∀ (ts : List T) (l : List PV) (ρ ρ' : Env), bindTs ts l ρ = some ρ' → l.length = ts.length
  | [], [], _, _, _ => rfl
  | [], _ :: _, _, _, h => by simp [bindTs] at h
  | _ :: _, [], _, _, h => by simp [bindTs] at h
  | t :: ts, p :: l, ρ, ρ', h => by
    simp only [bindTs] at h
    split at h
    · exact congrArg (· + 1) (bindTs_len ts l _ _ h)
    · cases h
end
end
/-! ### sources of turns -/
structure Stps (W : Wd) (cs : List Addr) (H : Hp) (O : Own) (A : Addr → Prop) (J : L2.It) (its : List PV) : Prop where
  ex : ∃ (G : Hp → Prop) (Y : Nat → Hp → V → Hp → Prop), Walk J its.length G Y ∧ (∀ H2, (∀ a, A a → ∀ o, H a = some o → H2 a = some o) → G H2) ∧
    ∀ (i : Nat) (p : PV) (x : V) (H2 H3 : Hp) (cs2 : List Addr) (O2 : Own), its[i]? = some p → Pre cs cs2 → Ext H O H2 O2 → (∀ a, O2 a → ∃ o, H2 a = some o) → Y i H2 x H3 →
      Rep W cs2 H3 O2 x p ∧ (H3 = H2 ∨ ∃ T o, H2 T = none ∧ H3 = upd H2 T o)
theorem Stps.ext {W : Wd} {cs : List Addr} {H H' : Hp} {O O' : Own} {A : Addr → Prop} {J : L2.It} {its : List PV} (s : Stps W cs H O A J its) (e : Ext H O H' O') (k : ∀ a, A a → ∀ o, H a = some o → H' a = some o) : Stps W cs H' O' A J its := by
  obtain ⟨G, Y, w, h1, h2⟩ := s.ex
  exact ⟨G, Y, w, fun H2 h => h1 H2 fun a ha o e => h a ha o (k a ha o e), fun i p x H2 H3 cs2 O2 a b c d f => h2 i p x H2 H3 cs2 O2 a b (e.trans c) d f⟩
/-- what a source's value is read by -/
inductive Src (W : Wd) (cs : List Addr) (H : Hp) (O : Own) : Bool → Addr → List V → (Addr → Prop) → Prop
  | lst {a : Addr} {xs : List V} : H a = some (.lst xs) → Src W cs H O true a xs (fun b => b = a)
  | tup {a : Addr} {xs : List V} : FT W.K H O a xs → Src W cs H O false a xs (fun b => b = a ∧ ¬ O a ∧ ∃ o, H a = some o)
section
variable {W : Wd} {cs : List Addr} {H : Hp} {O : Own}
theorem Src.sq {k : Bool} {a : Addr} {xs : List V} {A : Addr → Prop} (s : Src W cs H O k a xs A) {H2 : Hp} (h : ∀ b, A b → ∀ o, H b = some o → H2 b = some o) : Sq W.K k H2 a xs := by
  cases s with
  | lst e => exact .inl (.inl (h a rfl _ e))
  | tup e =>
    rcases e with ⟨e, n⟩ | e
    · rcases e with e | ⟨o, e⟩
      · exact .inl (.inl (h a ⟨rfl, n, _, e⟩ _ e))
      · exact .inl (.inr ⟨o, h a ⟨rfl, n, _, e⟩ _ e⟩)
    · exact .inr e
/-- the value of a source -/
theorem Rep2.src {v : V} {pv : PV} {its : List PV} (c : ∀ a ∈ cs, O a) (h : Rep2 W cs H O v pv) (e : seqV pv = some its) : ∃ k a xs A, v = .ref a ∧ Src W cs H O k a xs A ∧ xs.length ≤ LIM ∧ Reps W cs H O xs its ∧ (∀ b, A b → b ∉ cs) ∧ (∀ b, A b → ∃ o, H b = some o) ∧ (Rep W cs H O v pv → ∀ b, A b → ¬ O b) := by
  cases pv with
  | lst l =>
    cases e
    rcases h with h | ⟨a, rfl, n, xs, h1, h2, h3⟩
    · cases h with
      | lst h1 h2 h3 h4 => exact ⟨true, _, _, _, rfl, .lst h1, h3, h4, fun b hb z => by subst hb; exact h2 (c _ z), fun b hb => by subst hb; exact ⟨_, h1⟩, fun _ b hb => by subst hb; exact h2⟩
    · refine ⟨true, a, xs, _, rfl, .lst h1, h2, h3, fun b hb => by subst hb; exact n, fun b hb => by subst hb; exact ⟨_, h1⟩, fun r b hb => ?_⟩
      subst hb
      cases r with
      | lst _ n2 _ _ => exact n2
  | tup l =>
    cases e
    rcases h with h | ⟨a, rfl, n, h⟩
    · cases h with
      | tup h1 h2 h3 => exact ⟨false, _, _, _, rfl, .tup h1, h2, h3, fun b hb z => by obtain ⟨rfl, n, _⟩ := hb; exact n (c _ z), fun b hb => by obtain ⟨rfl, n, o⟩ := hb; exact o, fun _ b hb => by obtain ⟨rfl, n, _⟩ := hb; exact n⟩
    · exact h.elim
  | _ => cases e
theorem stps_seq {k : Bool} {a : Addr} {xs : List V} {A : Addr → Prop} {its : List PV} (s : Src W cs H O k a xs A) (r : Reps W cs H O xs its) : Stps W cs H O A (match k with | true => Itl W.K a | false => Itt W.K a) its := by
  cases k with
  | true =>
    refine ⟨_, _, r.length ▸ (walk_list (K := W.K) (a := a) (xs := xs)), fun H2 h => s.sq h, fun i p x H2 H3 cs2 O2 hp pr e _ y => ?_⟩
    obtain ⟨rfl, hx⟩ := y
    obtain ⟨v, hv, rv⟩ := r.get hp
    rw [hx] at hv
    cases hv
    exact ⟨rv.ext pr e, .inl rfl⟩
  | false =>
    refine ⟨_, _, r.length ▸ (walk_tup (K := W.K) (a := a) (xs := xs)), fun H2 h => s.sq h, fun i p x H2 H3 cs2 O2 hp pr e _ y => ?_⟩
    obtain ⟨rfl, hx⟩ := y
    obtain ⟨v, hv, rv⟩ := r.get hp
    rw [hx] at hv
    cases hv
    exact ⟨rv.ext pr e, .inl rfl⟩
theorem rng_length (lo : Int) : ∀ n, (rng lo n).length = n
  | 0 => rfl
  | n + 1 => congrArg (· + 1) (rng_length (lo + 1) n)
theorem rng_get (lo : Int) : ∀ (n i : Nat), i < n → (rng lo n)[i]? = some (.int (lo + i))
  | 0, _, h => by omega
  | n + 1, 0, _ => by simp [rng]
  | n + 1, i + 1, h => by
    show (rng (lo + 1) n)[i]? = _
    rw [rng_get (lo + 1) n i (by omega)]
    congr 2
    omega
theorem stps_rng {lo : Int} {n : Nat} : Stps W cs H O (fun _ => False) (Itr lo n) (rng lo n) := by
  have w : Walk (Itr lo n) (rng lo n).length (fun _ => True) (YFn fun i => .int (lo + i)) := by
    rw [rng_length]; exact walk_range
  refine ⟨_, _, w, fun _ _ => trivial, fun i p x H2 H3 cs2 O2 hp pr e _ y => ?_⟩
  obtain ⟨rfl, rfl⟩ := y
  have hi : i < n := by
    rw [← rng_length lo n]
    exact (List.getElem?_eq_some_iff.mp hp).1
  rw [rng_get lo n i hi] at hp
  cases hp
  exact ⟨.int _, .inl rfl⟩
theorem zipP_length : ∀ (a b : List PV), (zipP a b).length = min a.length b.length
  | [], b => by simp [zipP]
  | _ :: _, [] => by simp [zipP]
  | x :: xs, y :: ys => by
    simp only [zipP, List.length_cons, zipP_length xs ys]
    omega
theorem zipP_get : ∀ (a b : List PV) (i : Nat) (p : PV), (zipP a b)[i]? = some p → ∃ x y, a[i]? = some x ∧ b[i]? = some y ∧ p = .tup [x, y]
  | [], b, i, p, h => by simp [zipP] at h
  | _ :: _, [], i, p, h => by simp [zipP] at h
  | x :: xs, y :: ys, 0, p, h => by
    have h : some (PV.tup [x, y]) = some p := h
    cases h
    exact ⟨x, y, rfl, rfl, rfl⟩
  | x :: xs, y :: ys, i + 1, p, h => zipP_get xs ys i p h
theorem new_pair {H2 : Hp} {O2 : Own} {T : Addr} {x y : V} {p q : PV} (dom : ∀ a, O2 a → ∃ o, H2 a = some o) (hT : H2 T = none) (h1 : Rep W cs H2 O2 x p) (h2 : Rep W cs H2 O2 y q) : Rep W cs (upd H2 T (.tup [x, y])) O2 (.ref T) (.tup [p, q]) := by
  have e : Ext H2 O2 (upd H2 T (.tup [x, y])) O2 := ⟨fun a o e n => ⟨by rw [upd_ne (ne_of_none e hT)]; exact e, n⟩⟩
  exact .tup (.inl ⟨.inl upd_same, own_new (o := .tup [x, y]) dom hT⟩) (by show 2 ≤ LIM; decide) (.cons (h1.ext (.refl _) e) (.cons (h2.ext (.refl _) e) .nil))
theorem stps_zip {k k' : Bool} {a b : Addr} {xs ys : List V} {A A' : Addr → Prop} {l l' : List PV} (s : Src W cs H O k a xs A) (s' : Src W cs H O k' b ys A') (r : Reps W cs H O xs l) (r' : Reps W cs H O ys l') :
    Stps W cs H O (fun c => A c ∨ A' c) (ItZ W.K k k' a b) (zipP l l') := by
  have e : (zipP l l').length = min xs.length ys.length := by rw [zipP_length, r.length, r'.length]
  refine ⟨_, _, e ▸ (walk_zipG (K := W.K) (k := k) (k' := k') (a := a) (b := b) (xs := xs) (ys := ys)), fun H2 h => ⟨s.sq fun b hb => h b (.inl hb), s'.sq fun b hb => h b (.inr hb)⟩, fun i p x H2 H3 cs2 O2 hp pr e dom y => ?_⟩
  obtain ⟨T, u, w, rfl, hT, rfl, hu, hw⟩ := y
  obtain ⟨p1, p2, g1, g2, rfl⟩ := zipP_get l l' i p hp
  obtain ⟨v1, hv1, rv1⟩ := r.get g1
  obtain ⟨v2, hv2, rv2⟩ := r'.get g2
  have hu : xs[i]? = some u := hu
  have hw : ys[i]? = some w := hw
  rw [hu] at hv1
  rw [hw] at hv2
  cases hv1
  cases hv2
  exact ⟨new_pair dom hT (rv1.ext pr e) (rv2.ext pr e), .inr ⟨T, _, hT, rfl⟩⟩
theorem enumP_length : ∀ (n : Int) (l : List PV), (enumP n l).length = l.length
  | _, [] => rfl
  | n, _ :: r => congrArg (· + 1) (enumP_length (n + 1) r)
theorem enumP_get : ∀ (n : Int) (l : List PV) (i : Nat) (p : PV), (enumP n l)[i]? = some p → ∃ x, l[i]? = some x ∧ p = .tup [.int (n + i), x]
  | n, [], i, p, h => by simp [enumP] at h
  | n, x :: r, 0, p, h => by
    have h : some (PV.tup [.int n, x]) = some p := h
    cases h
    exact ⟨x, rfl, by simp⟩
  | n, x :: r, i + 1, p, h => by
    obtain ⟨y, h1, h2⟩ := enumP_get (n + 1) r i p h
    refine ⟨y, h1, ?_⟩
    rw [h2]
    congr 3
    omega
theorem stps_enum {k : Bool} {a : Addr} {xs : List V} {A : Addr → Prop} {l : List PV} (s : Src W cs H O k a xs A) (r : Reps W cs H O xs l) : Stps W cs H O A (ItN W.K k a) (enumP 0 l) := by
  have e : (enumP 0 l).length = xs.length := by rw [enumP_length, r.length]
  refine ⟨_, _, e ▸ (walk_enumG (K := W.K) (k := k) (a := a) (xs := xs)), fun H2 h => s.sq h, fun i p x H2 H3 cs2 O2 hp pr e dom y => ?_⟩
  obtain ⟨T, u, w, rfl, hT, rfl, hu, hw⟩ := y
  obtain ⟨p1, g1, rfl⟩ := enumP_get 0 l i p hp
  obtain ⟨v1, hv1, rv1⟩ := r.get g1
  have hw : xs[i]? = some w := hw
  rw [hw] at hv1
  cases hv1
  cases hu
  have e0 : (0 : Int) + (i : Nat) = (i : Nat) := by omega
  rw [e0]
  exact ⟨new_pair dom hT (.int _) (rv1.ext pr e), .inr ⟨T, _, hT, rfl⟩⟩
end
/-- turn by turn -/
theorem walk_loop {J : L2.It} {n : Nat} {G : Hp → Prop} {Y : Nat → Hp → V → Hp → Prop} (w : Walk J n G Y) {H0 : Hp} {Qd : Hp → Prop} (Bd : V → Hp → (Hp → Prop) → Prop) (Pv : Nat → Hp → Prop) (h0 : Pv 0 H0) (hG : ∀ i H, i ≤ n → Pv i H → G H)
    (hs : ∀ i x H H', i < n → Pv i H → Y i H x H' → Bd x H' (Pv (i + 1))) (hd : ∀ H, Pv n H → Qd H) :
    ∃ Wf : Nat → Nat → Hp → Prop, (∃ m, Wf 0 m H0) ∧ ∀ i m H, Wf i m H →
      (J.stop i H ∧ Qd H) ∨ (J.go i H ∧ ∃ Nx : Hp → Prop, (∀ H', Nx H' → ∃ m', m' < m ∧ Wf (i + 1) m' H') ∧ ∀ x H', J.yld i H x H' → Bd x H' Nx) := by
  refine ⟨fun i m H => m = n - i ∧ i ≤ n ∧ Pv i H, ⟨n, by simp, Nat.zero_le _, h0⟩, ?_⟩
  rintro i m H ⟨rfl, hi, p⟩
  have q := hG i H hi p
  by_cases hlt : i < n
  · refine .inr ⟨w.goes i H hlt q, Pv (i + 1), fun H' p' => ⟨n - (i + 1), by omega, rfl, hlt, p'⟩, fun x H' y => hs i x H H' hlt p (w.yields i H x H' hlt q y)⟩
  · have e : i = n := by omega
    subst e
    exact .inl ⟨w.stops H q, hd H p⟩
end Z
end

section
set_option Elab.async false
set_option linter.all false
set_option maxRecDepth 100000
set_option maxHeartbeats 1000000
/-! Z10: what the interpreter says of an expression holds of the text: all but comprehensions. -/
namespace L2
open PySem PySem.Spec PyProof.Rows
section
variable {X : Cx}
/-- l.index(x): plain data of any depth -/
theorem mt_indexP : MtR X "list.index" (fun x xs H Q => ∃ (a : Addr) (ys : List V) (y : V) (d : PyData) (ds : List PyData) (j : Nat) (z : PyData), x = V.ref a ∧ xs = [y] ∧ H a = some (.lst ys) ∧ DpAll X.K H ys ds ∧ Dp X.K H y d ∧
    PyData.plainAll ds = true ∧ d.plain = true ∧ d.depth ≤ 64 ∧ X.A.units + 200 < cLine ∧ ds[j]? = some z ∧ PyData.eqv z d = true ∧ (∀ (m : Nat) (z' : PyData), m < j → ds[m]? = some z' → PyData.eqv z' d = false) ∧ Q (.int (j : Nat)) H) := by
  intro pins s σ H x xs v us Q I rx rxs h
  obtain ⟨l, ys, y, d, ds, j, z, rfl, rfl, hH, hd, hy, pl, pd, hz, hu, hj, hit, hno, q⟩ := h
  cases rx
  cases rxs with
  | cons ry rt =>
    rename_i uy ut
    cases rt
    obtain ⟨bs, r1⟩ := Dp.reads I d y uy hy ry
    obtain ⟨hzl, its, n, rv, hlen, e⟩ := I.lstM hH
    obtain ⟨as, h4⟩ := Dp.readsAll I ds _ its hd rv
    have hn : its.length = ds.length := SeqAt.ReadsAll.length ds its as h4
    have hmap : its.map (SeqAt.readOf s.heap) = ds := SeqAt.readsAll_map_plain ds its as pl h4
    obtain ⟨hjd, _⟩ := List.getElem?_eq_some_iff.mp hj
    have hjl : j < its.length := by omega
    have hsl := sizeLine_eq
    have at_ : ∀ (m : Nat) (hm : m < its.toArray.size) (z' : PyData), ds[m]? = some z' → SeqAt.readOf s.heap its.toArray[m] = z' := by
      intro m hm z' hz'
      have hml : m < its.length := by simpa using hm
      rw [← hmap, List.getElem?_map, List.getElem?_eq_getElem hml] at hz'
      have e1 : SeqAt.readOf s.heap its[m] = z' := Option.some.inj (show some (SeqAt.readOf s.heap its[m]) = some z' from hz')
      simpa using e1
    refine call_meets PySem.F.slot_list_index ⟨_, e, rfl⟩ PySem.F.entry_list_index (PySem.F.args_list_index_2 _ _)
      (SeqAt.list_indexAt l its.toArray n none #[] uy (fun u => PyData.eqv (SeqAt.readOf s.heap u) d) j (by simpa using hjl) (by have := rv.length; omega) ?_ ?_) ⟨e, SeqAt.items_plain (vs := its.toArray) (show ReadsAll s.heap its.toArray.toList ds as from h4) r1 pl pd (by have := Nat.min_le_right (PyData.depthAll ds) d.depth; omega), ?_⟩
    · show PyData.eqv (SeqAt.readOf s.heap its.toArray[j]) d = true
      rw [at_ j (by simpa using hjl) z hj]; exact hit
    · intro m hm hmj
      show PyData.eqv (SeqAt.readOf s.heap its.toArray[m]) d = false
      have hmd : m < ds.length := by have : m < its.length := by simpa using hm
                                     omega
      rw [at_ m hm ds[m] (List.getElem?_eq_getElem hmd)]
      exact hno m _ hmj (List.getElem?_eq_getElem hmd)
    · exact ⟨.int (j : Nat), H, I.tok _, ⟨_, rfl⟩, q⟩
end
end L2
namespace Z
open PySem L2
/-- the value of such an expression is new, or no list -/
def freshE (fs : List Fd) : E → Bool
  | .cst _ => true | .bin .. => true | .neg _ => true | .not _ => true | .cmp .. => true | .isN _ => true | .isNN _ => true | .chain .. => true
  | .and _ b => freshE fs b
  | .or _ b => freshE fs b
  | .ite _ a b => freshE fs a && freshE fs b
  | .call f _ => (match fs[f]? with
    | some f => f.fresh
    | none => false)
  | .bi .. => true | .isi .. => true | .mt .. => true | .sl .. => true | .rev _ => true | .tup _ => true | .lst _ => true | .comp .. => true | .comp2 .. => true
  | _ => false
def wW (X : Cx) (e : Expr) : TT := fun σ H Q => ∀ (whole : Sem Value) (pins : List (Addr × Obj)) (s : Shared), Inv X pins σ H s → wpAny (model X.prog X.w) X.A (isTrue e X.env whole) (TP X pins σ Q) X.xe s
theorem pw_w {X : Cx} {e : Expr} : PW X e (wW X e) := ⟨fun wh pins s _ _ _ I h => h wh pins s I⟩
theorem PW.w {X : Cx} {e : Expr} {t : TT} {σ : L2.St} {H : Hp} {Q : Bool → Hp → Prop} (h : PW X e t) (q : t σ H Q) : wW X e σ H Q := fun wh pins s I => h.run wh pins s σ H Q I q
def isBop : Expr → Bool
  | .BoolOp .. => true
  | _ => false
abbrev PostE (W : Wd) (fs : List Fd) (cs : List Addr) (H : Hp) (O : Own) (g' : G) (ie : E) (pv : PV) (Q : VK) : Prop :=
  ∀ z H', Keep cs H H' → CellsOk W cs H' O g' → EAns W cs H H' O (isPk ie) (freshE fs ie) z pv → Q z H'
def SE (W : Wd) (tb : Tab) (fs : List Fd) (cf : CF) (d : Nat) (ev : EV) : Prop := ∀ (C : SC) (X : Cx) (m : Nat) (e : Expr) (ie : E) (cs : List Addr) (H : Hp) (O B : Own) (σ : L2.St) (ρ : Env) (g g' : G) (pv : PV) (Q : VK),
  Good W tb fs cf d C X → ckE tb fs m C e ie = true → RS W cs H O B σ ρ g → ev ρ g ie = some (.v pv, g') → PostE W fs cs H O g' ie pv Q → eW X e σ H Q
def ST (W : Wd) (tb : Tab) (fs : List Fd) (cf : CF) (d : Nat) (ev : EV) : Prop := ∀ (C : SC) (X : Cx) (m : Nat) (e : Expr) (ie : E) (cs : List Addr) (H : Hp) (O B : Own) (σ : L2.St) (ρ : Env) (g g' : G) (b : Bool) (Q : Bool → Hp → Prop),
  Good W tb fs cf d C X → ckE tb fs m C e ie = true → RS W cs H O B σ ρ g → ev ρ g ie = some (.v (.bl b), g') → (∀ H', Keep cs H H' → CellsOk W cs H' O g' → Q b H') → tW X e σ H Q
def SW (W : Wd) (tb : Tab) (fs : List Fd) (cf : CF) (d : Nat) (ev : EV) : Prop := ∀ (C : SC) (X : Cx) (m : Nat) (e : Expr) (ie : E) (cs : List Addr) (H : Hp) (O B : Own) (σ : L2.St) (ρ : Env) (g g' : G) (b : Bool) (Q : Bool → Hp → Prop),
  isBop e = true → Good W tb fs cf d C X → ckE tb fs m C e ie = true → RS W cs H O B σ ρ g → ev ρ g ie = some (.v (.bl b), g') → (∀ H', Keep cs H H' → CellsOk W cs H' O g' → Q b H') → wW X e σ H Q

section
variable {W : Wd} {tb : Tab} {fs : List Fd} {cf : CF} {d : Nat} {ev : EV} {C : SC} {X : Cx} {m : Nat} {cs : List Addr} {H : Hp} {O B : Own} {σ : L2.St} {ρ : Env} {g g' : G} {Q : VK}
theorem CellsOk.bound (c : CellsOk W cs H O g) : ∀ a ∈ cs, O a := c.sub
/-! ### arguments -/
theorem arg1 (ih : SE W tb fs cf d ev) (GO : Good W tb fs cf d C X) {e : Expr} {ie : E} {pv : PV} {Q : List V → Hp → Prop} (h : ckE tb fs m C e ie = true) (hs : notStar e = true) (r : RS W cs H O B σ ρ g) (he : ev ρ g ie = some (.v pv, g'))
    (q : ∀ z H', Keep cs H H' → CellsOk W cs H' O g' → EAns W cs H H' O (isPk ie) (freshE fs ie) z pv → Q [z] H') : aW X [e] σ H Q :=
  PA.w (pa_cons pe_w pa_nil (star_cons hs)) (ih C X m e ie cs H O B σ ρ g g' pv _ GO h r he q)
theorem arg2 (ih : SE W tb fs cf d ev) (GO : Good W tb fs cf d C X) {e e2 : Expr} {ie ie2 : E} {pv pw : PV} {g1 : G} {Q : List V → Hp → Prop} (h : ckE tb fs m C e ie = true) (hs : notStar e = true) (h2 : ckE tb fs m C e2 ie2 = true) (hs2 : notStar e2 = true)
    (r : RS W cs H O B σ ρ g) (he : ev ρ g ie = some (.v pv, g1)) (he2 : ev ρ g1 ie2 = some (.v pw, g'))
    (q : ∀ z y H', Keep cs H H' → CellsOk W cs H' O g' → Rep2 W cs H' O z pv → Rep2 W cs H' O y pw → (isPk ie = false → Rep W cs H' O z pv) → (isPk ie2 = false → Rep W cs H' O y pw) → Q [z, y] H') : aW X [e, e2] σ H Q := by
  refine PA.w (pa_cons pe_w (pa_cons pe_w pa_nil (star_cons hs2)) (star_cons hs)) (ih C X m e ie cs H O B σ ρ g g1 pv _ GO h r he fun z H1 k1 c1 a1 => ?_)
  exact ih C X m e2 ie2 cs H1 O B σ ρ g1 g' pw _ GO h2 (r.keep k1 c1) he2 fun y H2 k2 c2 a2 => q z y H2 (k1.trans k2) c2 (a1.r2.keep k2 c1) a2.r2 (fun w => k2.rep c1 (a1.rep w)) a2.rep
theorem args_ok (ih : SE W tb fs cf d ev) (GO : Good W tb fs cf d C X) : ∀ {is : List E} {es : List Expr} {vs : List PV} {H : Hp} {g : G} {Q : List V → Hp → Prop}, ckL (ckE tb fs m C) es is = true → is.all (fun i => !isPk i) = true → RS W cs H O B σ ρ g → evL ev ρ g is = some (.v vs, g') →
    (∀ zs H', Keep cs H H' → CellsOk W cs H' O g' → Reps W cs H' O zs vs → Q zs H') → aW X es σ H Q
  | [], es, vs, H, g, Q, hc, hp, r, he, q => by
    cases es with
    | nil =>
      obtain ⟨rfl, rfl⟩ := rt_v he
      exact PA.w pa_nil (q [] H (.refl _ _) r.cells .nil)
    | cons _ _ => simp [ckL] at hc
  | i :: is, es, vs, H, g, Q, hc, hp, r, he, q => by
    cases es with
    | nil => simp [ckL] at hc
    | cons e es =>
      simp only [ckL, Bool.and_eq_true] at hc
      rw [List.all_cons, Bool.and_eq_true] at hp
      have hp1 : isPk i = false := by simpa using hp.1
      obtain ⟨v, g1, h1, he⟩ := bd_v he
      obtain ⟨ws, g2, h2, he⟩ := bd_v he
      obtain ⟨rfl, rfl⟩ := rt_v he
      refine PA.w (pa_cons pe_w pa_w (star_cons hc.1.2)) (ih C X m e i cs H O B σ ρ g g1 v _ GO hc.1.1 r h1 fun z H1 k1 c1 a1 => ?_)
      exact args_ok ih GO hc.2 hp.2 (r.keep k1 c1) h2 fun zs H2 k2 c2 rs => q (z :: zs) H2 (k1.trans k2) c2 (.cons (k2.rep c1 (a1.rep hp1)) rs)
theorem evL_length : ∀ {is : List E} {vs : List PV} {g : G}, evL ev ρ g is = some (.v vs, g') → vs.length = is.length
  | [], vs, g, h => by
    obtain ⟨rfl, rfl⟩ := rt_v h
    rfl
  | i :: is, vs, g, h => by
    obtain ⟨v, g1, h1, h⟩ := bd_v h
    obtain ⟨ws, g2, h2, h⟩ := bd_v h
    obtain ⟨rfl, rfl⟩ := rt_v h
    exact congrArg (· + 1) (evL_length h2)
/-! ### built-in functions -/
theorem boot_bi (b : Bi) : bootBuiltins (biName b) = some (biVal b) := by cases b <;> decide +kernel
theorem bi_mem (b : Bi) : biName b ∈ bnames := by cases b <;> decide
theorem pe_bi {b : Bi} {l : Expr} {p pos : Pos} (hg : Gl X (biName b)) (hm : X.mg (biName b) = none) (hs : notStar l = true) : PE X (.Call (.Name (biName b) p) [l] [] pos) (fun σ H Q => aW X [l] σ H fun vs H1 => cW X (biVal b) vs H1 Q) := by
  have hv := boot_bi b
  have hst : starEach [l] X.env = (false, eval l X.env) :: starEach [] X.env := star_cons hs
  cases b <;> first
    | exact pe_callB (cW_op X _) hg hm hv pa_w (by decide) (by decide) hst rfl
    | exact pe_callTy (cW_op X _) hg hm hv pa_w (by decide) (by decide) hst rfl
theorem boot_ty (t : Ty) : bootBuiltins (tyStr t) = some (.type (tyName t)) := by cases t <;> decide +kernel
theorem ty_mem (t : Ty) : tyStr t ∈ bnames := by cases t <;> decide
theorem ty_nn (t : Ty) : tyStr t ≠ "__name__" ∧ (tyStr t == ("__debug__" : Str)) = false := by cases t <;> decide
theorem pe_isi {t : Ty} {l : Expr} {p p2 pos : Pos} (hg : Gl X "isinstance") (hm : X.mg "isinstance" = none) (hg2 : Gl X (tyStr t)) (hm2 : X.mg (tyStr t) = none) (hs : notStar l = true) :
    PE X (.Call (.Name "isinstance" p) [l, .Name (tyStr t) p2] [] pos) (fun σ H Q => eW X l σ H fun v H1 => cW X (.builtin "isinstance") [v, .ty (tyName t)] H1 Q) := by
  have hst : starEach [l, .Name (tyStr t) p2] X.env = (false, eval l X.env) :: starEach [.Name (tyStr t) p2] X.env := star_cons hs
  exact pe_callB (cW_op X _) hg hm (by decide +kernel) (pa_cons pe_w (pa_cons (pe_bltn (v := .ty (tyName t)) hg2 hm2 (boot_ty t) rfl (ty_nn t).1 (ty_nn t).2) pa_nil) hst) (by decide) (by decide) hst rfl
/-! ### flat answers -/
theorem q_int {ie : E} {i : Int} (q : PostE W fs cs H O g' ie (.int i) Q) {H1 : Hp} (k : Keep cs H H1) (c : CellsOk W cs H1 O g') : Q (.int i) H1 := q _ _ k c ⟨.inl (.int _), fun _ => .int _, fun _ => trivial⟩
theorem q_bl {ie : E} {i : Bool} (q : PostE W fs cs H O g' ie (.bl i) Q) {H1 : Hp} (k : Keep cs H H1) (c : CellsOk W cs H1 O g') : Q (.bl i) H1 := q _ _ k c ⟨.inl (.bl _), fun _ => .bl _, fun _ => trivial⟩
theorem Ans.of {ie : E} {pv : PV} {H1 : Hp} {g1 : G} (q : PostE W fs cs H O g' ie pv Q) (k : Keep cs H H1) (e : g1 = g') : Ans W cs H1 O g1 pv Q := by
  subst e
  exact fun z H2 k2 c2 p => q z H2 (k.trans k2) c2 ((EAns.post p).mono k)
theorem rep_non {v : V} {p : PV} (h : Rep W cs H O v p) : decide (v = .non) = (match p with | .non => true | _ => false) := by
  cases h <;> first | rfl | simp
end
/-- a test of an expression that is no operator's -/
theorem tW_of {X : Cx} {e : Expr} {σ : L2.St} {H : Hp} {Q : Bool → Hp → Prop} (he : ∀ whole, isTrue e X.env whole = (do let v ← whole; standAt e.pos; holding [v] (truthy v))) (h : eW X e σ H fun x H1 => ∃ c, x = .bl c ∧ Q c H1) : tW X e σ H Q :=
  PT.w (pt_val pe_w he) h
end Z
end

section
set_option Elab.async false
set_option linter.all false
set_option maxRecDepth 100000
set_option maxHeartbeats 2000000
/-! Z11: expressions, form by form (no comprehensions). -/
namespace Z
open PySem L2
theorem bt_v {v : PV} {α : Type} {f : Bool → Option α} {a : α} (h : (match v with | .bl b => f b | _ => none) = some a) : ∃ b, v = .bl b ∧ f b = some a := by
  cases v <;> first | cases h | exact ⟨_, rfl, h⟩
section
variable {W : Wd} {tb : Tab} {fs : List Fd} {cf : CF} {d : Nat} {ev : EV} {C : SC} {X : Cx} {m : Nat} {cs : List Addr} {H : Hp} {O B : Own} {σ : L2.St} {ρ : Env} {g g' : G} {Q : VK} {e : Expr} {pv : PV}
theorem se_var {i : Nat} (GO : Good W tb fs cf d C X) (r : RS W cs H O B σ ρ g) (h : ckE tb fs (m + 1) C e (.var i) = true) (hb : isBop e = false) (he : evE1 tb cf ev ρ g (.var i) = some (.v pv, g')) (q : PostE W fs cs H O g' (.var i) pv Q) : eW X e σ H Q := by
  cases e with
  | Name x p =>
    simp only [ckE, Bool.and_eq_true] at h
    simp only [evE1] at he
    split at he
    · rename_i v hρ
      obtain ⟨rfl, rfl⟩ := rt_v he
      obtain ⟨w, hs, hr⟩ := r.at_ _ _ hρ
      exact PE.w (pe_var (GO.ix h.1.1) (GO.vis h.1.2) (okName_1 h.2) (okName_2 h.2)) ⟨w, hs, q w H (.refl _ _) r.cells (.plain hr)⟩
    · cases he
  | BoolOp _ _ _ => cases hb
  | _ => simp [ckE] at h
theorem se_pk {i : Nat} (GO : Good W tb fs cf d C X) (r : RS W cs H O B σ ρ g) (h : ckE tb fs (m + 1) C e (.pk i) = true) (hb : isBop e = false) (he : evE1 tb cf ev ρ g (.pk i) = some (.v pv, g')) (q : PostE W fs cs H O g' (.pk i) pv Q) : eW X e σ H Q := by
  cases e with
  | Name x p =>
    simp only [ckE, Bool.and_eq_true] at h
    simp only [evE1] at he
    split at he
    · rename_i v hρ
      obtain ⟨rfl, rfl⟩ := rt_v he
      obtain ⟨w, hs, hr⟩ := r.at_ _ _ hρ
      exact PE.w (pe_var (GO.ix h.1.1) (GO.vis h.1.2) (okName_1 h.2) (okName_2 h.2)) ⟨w, hs, q w H (.refl _ _) r.cells ⟨.inl hr, (fun z => by cases z), (fun z => by cases z)⟩⟩
    · rename_i v hρ
      obtain ⟨rfl, rfl⟩ := rt_v he
      obtain ⟨a, hs, h1, h2, h3, h4⟩ := r.at_ _ _ hρ
      exact PE.w (pe_var (GO.ix h.1.1) (GO.vis h.1.2) (okName_1 h.2) (okName_2 h.2)) ⟨_, hs, q _ H (.refl _ _) r.cells ⟨.inr ⟨a, rfl, h3, h4⟩, (fun z => by cases z), (fun z => by cases z)⟩⟩
    · cases he
  | BoolOp _ _ _ => cases hb
  | _ => simp [ckE] at h
theorem se_cst {c : PV} (r : RS W cs H O B σ ρ g) (h : ckE tb fs (m + 1) C e (.cst c) = true) (hb : isBop e = false) (he : evE1 tb cf ev ρ g (.cst c) = some (.v pv, g')) (q : PostE W fs cs H O g' (.cst c) pv Q) : eW X e σ H Q := by
  cases e with
  | Constant k j p =>
    simp only [ckE] at h
    obtain ⟨rfl, rfl⟩ := rt_v (show rt c g = some (.v pv, g') from he)
    cases c with
    | non =>
      cases k <;> first | (simp [cstOk] at h; done) | skip
      exact PE.w pe_non (q _ _ (.refl _ _) r.cells ⟨.inl .non, fun _ => .non, fun _ => trivial⟩)
    | bl b =>
      cases k <;> first | (simp [cstOk] at h; done) | skip
      rename_i c0
      have h : b = c0 := by simpa [cstOk] using h
      subst h
      exact PE.w pe_bl (q_bl q (.refl _ _) r.cells)
    | int i =>
      cases k <;> first | (simp [cstOk] at h; done) | skip
      rename_i c0
      have h : i = c0 := by simpa [cstOk] using h
      subst h
      exact PE.w pe_int (q_int q (.refl _ _) r.cells)
    | str i =>
      cases k <;> first | (simp [cstOk] at h; done) | skip
      rename_i c0
      have h : i = c0 := by simpa [cstOk] using h
      subst h
      exact PE.w pe_str (q _ _ (.refl _ _) r.cells ⟨.inl (.str _), fun _ => .str _, fun _ => trivial⟩)
    | _ => simp [cstOk] at h
  | BoolOp _ _ _ => cases hb
  | _ => simp [ckE] at h
theorem se_gv {k : Nat} (GO : Good W tb fs cf d C X) (r : RS W cs H O B σ ρ g) (h : ckE tb fs (m + 1) C e (.gv k) = true) (hb : isBop e = false) (he : evE1 tb cf ev ρ g (.gv k) = some (.v pv, g')) (q : PostE W fs cs H O g' (.gv k) pv Q) : eW X e σ H Q := by
  cases e with
  | Name x p =>
    simp only [ckE, Bool.and_eq_true] at h
    simp only [evE1] at he
    split at he
    · rename_i y v hk
      obtain ⟨rfl, rfl⟩ := rt_v he
      have hx : y = x := by
        have := of_decide_eq_true h.1.1
        rw [hk] at this
        exact Option.some.inj this
      subst hx
      obtain ⟨u, w, hm, rv, rep⟩ := GO.gl k y v hk
      exact PE.w (pe_glob (GO.glb h.1.2) hm rv (okName_1 h.2)) (q w H (.refl _ _) r.cells (.plain (rep _ _ _)))
    · cases he
  | BoolOp _ _ _ => cases hb
  | _ => simp [ckE] at h
theorem se_gf {k : Nat} (GO : Good W tb fs cf d C X) (r : RS W cs H O B σ ρ g) (h : ckE tb fs (m + 1) C e (.gf k) = true) (hb : isBop e = false) (he : evE1 tb cf ev ρ g (.gf k) = some (.v pv, g')) (q : PostE W fs cs H O g' (.gf k) pv Q) : eW X e σ H Q := by
  cases e with
  | Name x p =>
    simp only [ckE, Bool.and_eq_true] at h
    obtain ⟨rfl, rfl⟩ := rt_v (show rt (PV.fn k) g = some (.v pv, g') from he)
    have h0 := of_decide_eq_true h.1.1
    cases hk : fs[k]? with
    | none => rw [hk] at h0; cases h0
    | some f =>
      rw [hk] at h0
      have h0 : f.name = x := Option.some.inj h0
      subst h0
      obtain ⟨h1, h2, _⟩ := GO.fns.at_ k f hk
      exact PE.w (pe_glob (GO.glb h.1.2) h2 (v := .ref (W.fa k)) rfl (okName_1 h.2)) (q _ H (.refl _ _) r.cells (.plain (.fn k h1)))
  | BoolOp _ _ _ => cases hb
  | _ => simp [ckE] at h
theorem se_bin {o : BOp} {a b : E} (ih : SE W tb fs cf d ev) (GO : Good W tb fs cf d C X) (r : RS W cs H O B σ ρ g) (h : ckE tb fs (m + 1) C e (.bin o a b) = true) (hb : isBop e = false) (he : evE1 tb cf ev ρ g (.bin o a b) = some (.v pv, g')) (q : PostE W fs cs H O g' (.bin o a b) pv Q) : eW X e σ H Q := by
  cases e with
  | BinOp l op l2 p =>
    simp only [ckE, Bool.and_eq_true] at h
    obtain ⟨⟨h0, h1⟩, h2⟩ := h
    have h0 := of_decide_eq_true h0
    subst h0
    obtain ⟨v, g1, e1, he⟩ := bd_v he
    obtain ⟨w, g2, e2, he⟩ := bd_v he
    obtain ⟨e3, rfl⟩ := lf_v he
    refine PE.w (pe_op (rW_op X _) pe_w pe_w) (ih C X m l a cs H O B σ ρ g g1 v _ GO h1 r e1 fun z H1 k1 c1 a1 => ?_)
    refine ih C X m l2 b cs H1 O B σ ρ g1 g' w _ GO h2 (r.keep k1 c1) e2 fun y H2 k2 c2 a2 => ?_
    exact bin_ok GO.gx c2 ((r.keep k1 c1).keep k2 c2).dom e3 (a1.r2.keep k2 c1).one a2.r2.one (Ans.of q (k1.trans k2) rfl)
  | BoolOp _ _ _ => cases hb
  | _ => simp [ckE] at h
theorem se_neg {a : E} (ih : SE W tb fs cf d ev) (GO : Good W tb fs cf d C X) (r : RS W cs H O B σ ρ g) (h : ckE tb fs (m + 1) C e (.neg a) = true) (hb : isBop e = false) (he : evE1 tb cf ev ρ g (.neg a) = some (.v pv, g')) (q : PostE W fs cs H O g' (.neg a) pv Q) : eW X e σ H Q := by
  cases e with
  | UnaryOp op l p =>
    simp only [ckE, Bool.and_eq_true] at h
    obtain ⟨⟨h0, h1⟩, h2⟩ := h
    have h0 := of_decide_eq_true h0
    subst h0
    obtain ⟨v, g1, e1, he⟩ := bd_v he
    cases v with
    | int i =>
      obtain ⟨rfl, rfl⟩ := rt_v he
      refine PE.w (pe_un un_neg pe_w) (ih C X m l a cs H O B σ ρ g g' (.int i) _ GO h1 r e1 fun z H1 k1 c1 a1 => ?_)
      exact ⟨i, a1.r2.one.int, q_int q k1 c1⟩
    | _ => cases he
  | BoolOp _ _ _ => cases hb
  | _ => simp [ckE] at h
theorem se_not {a : E} (ih : SE W tb fs cf d ev) (GO : Good W tb fs cf d C X) (r : RS W cs H O B σ ρ g) (h : ckE tb fs (m + 1) C e (.not a) = true) (hb : isBop e = false) (he : evE1 tb cf ev ρ g (.not a) = some (.v pv, g')) (q : PostE W fs cs H O g' (.not a) pv Q) : eW X e σ H Q := by
  cases e with
  | UnaryOp op l p =>
    simp only [ckE, Bool.and_eq_true] at h
    obtain ⟨⟨h0, h1⟩, h2⟩ := h
    have h0 := of_decide_eq_true h0
    subst h0
    obtain ⟨v, g1, e1, he⟩ := bd_v he
    cases v with
    | bl i =>
      obtain ⟨rfl, rfl⟩ := rt_v he
      refine PE.w (pe_not pe_w) (ih C X m l a cs H O B σ ρ g g' (.bl i) _ GO h1 r e1 fun z H1 k1 c1 a1 => ?_)
      exact ⟨i, a1.r2.one.bl, q_bl q k1 c1⟩
    | _ => cases he
  | BoolOp _ _ _ => cases hb
  | _ => simp [ckE] at h
theorem se_and {a b : E} (ih : SE W tb fs cf d ev) (GO : Good W tb fs cf d C X) (r : RS W cs H O B σ ρ g) {op : BoolOp} {x y : Expr} {es : List Expr} {p : Pos} (h : ckE tb fs (m + 1) C (.BoolOp op (x :: y :: es) p) (.and a b) = true) (he : evE1 tb cf ev ρ g (.and a b) = some (.v pv, g')) (q : PostE W fs cs H O g' (.and a b) pv Q) : eW X (.BoolOp op (x :: y :: es) p) σ H Q := by
  simp only [ckE, Bool.and_eq_true] at h
  obtain ⟨⟨⟨⟨h0, h1⟩, h2⟩, h3⟩, h4⟩ := h
  have h0 := of_decide_eq_true h0
  subst h0
  obtain ⟨v, g1, e1, he⟩ := bd_v he
  refine PE.w (pe_and pe_w pe_w) (ih C X m x a cs H O B σ ρ g g1 v _ GO h1 r e1 fun z H1 k1 c1 a1 => ?_)
  cases v with
  | bl c =>
    refine ⟨c, a1.r2.one.bl, ?_⟩
    cases c with
    | true =>
      rw [if_pos rfl]
      have hp : isPk b = false := by simpa using h4
      exact ih C X m _ b cs H1 O B σ ρ g1 g' pv _ GO h2 (r.keep k1 c1) he fun z2 H2 k2 c2 a2 => q z2 H2 (k1.trans k2) c2 ⟨a2.r2, fun _ => a2.rep hp, fun hf => (a2.new hf).mono k1⟩
    | false =>
      obtain ⟨rfl, rfl⟩ := rt_v he
      rw [if_neg (by decide)]
      exact q_bl q k1 c1
  | _ => cases he
theorem se_or {a b : E} (ih : SE W tb fs cf d ev) (GO : Good W tb fs cf d C X) (r : RS W cs H O B σ ρ g) {op : BoolOp} {x y : Expr} {es : List Expr} {p : Pos} (h : ckE tb fs (m + 1) C (.BoolOp op (x :: y :: es) p) (.or a b) = true) (he : evE1 tb cf ev ρ g (.or a b) = some (.v pv, g')) (q : PostE W fs cs H O g' (.or a b) pv Q) : eW X (.BoolOp op (x :: y :: es) p) σ H Q := by
  simp only [ckE, Bool.and_eq_true] at h
  obtain ⟨⟨⟨⟨h0, h1⟩, h2⟩, h3⟩, h4⟩ := h
  have h0 := of_decide_eq_true h0
  subst h0
  obtain ⟨v, g1, e1, he⟩ := bd_v he
  refine PE.w (pe_or pe_w pe_w) (ih C X m x a cs H O B σ ρ g g1 v _ GO h1 r e1 fun z H1 k1 c1 a1 => ?_)
  cases v with
  | bl c =>
    refine ⟨c, a1.r2.one.bl, ?_⟩
    cases c with
    | false =>
      rw [if_neg (by decide)]
      have hp : isPk b = false := by simpa using h4
      exact ih C X m _ b cs H1 O B σ ρ g1 g' pv _ GO h2 (r.keep k1 c1) he fun z2 H2 k2 c2 a2 => q z2 H2 (k1.trans k2) c2 ⟨a2.r2, fun _ => a2.rep hp, fun hf => (a2.new hf).mono k1⟩
    | true =>
      obtain ⟨rfl, rfl⟩ := rt_v he
      rw [if_pos rfl]
      exact q_bl q k1 c1
  | _ => cases he
theorem omap_v {α β : Type} {o : Option α} {f : α → β} {b : β} (h : o.map f = some b) : ∃ a, o = some a ∧ f a = b := by
  cases o with
  | none => cases h
  | some a => exact ⟨a, rfl, Option.some.inj h⟩
theorem se_cmp {o : COp} {a b : E} (ih : SE W tb fs cf d ev) (GO : Good W tb fs cf d C X) (r : RS W cs H O B σ ρ g) (h : ckE tb fs (m + 1) C e (.cmp o a b) = true) (hb : isBop e = false) (he : evE1 tb cf ev ρ g (.cmp o a b) = some (.v pv, g')) (q : PostE W fs cs H O g' (.cmp o a b) pv Q) :
    ∃ l l2 p, e = .Compare l [copOf o] [l2] p ∧ behindInMarks (copOf o) l2 = false ∧ tOp (rW X (compareOp (copOf o))) (eW X l) (eW X l2) σ H Q := by
  cases e with
  | Compare l ops es p =>
    match ops, es, h with
    | [op], [l2], h =>
      simp only [ckE, Bool.and_eq_true] at h
      obtain ⟨⟨⟨h0, h1⟩, h2⟩, h3⟩ := h
      have h0 := of_decide_eq_true h0
      subst h0
      obtain ⟨v, g1, e1, he⟩ := bd_v he
      obtain ⟨w, g2, e2, he⟩ := bd_v he
      obtain ⟨e3, rfl⟩ := lf_v he
      obtain ⟨u, e3', rfl⟩ := omap_v e3
      refine ⟨l, l2, p, rfl, marks_of h3, ih C X m l a cs H O B σ ρ g g1 v _ GO h1 r e1 fun z H1 k1 c1 a1 => ?_⟩
      refine ih C X m l2 b cs H1 O B σ ρ g1 g' w _ GO h2 (r.keep k1 c1) e2 fun y H2 k2 c2 a2 => ?_
      exact cmp_ok GO.gx c2 e3' (a1.r2.keep k2 c1).one a2.r2.one (Ans.of q (k1.trans k2) rfl)
    | [], _, h => simp [ckE] at h
    | [_], [], h => simp [ckE] at h
    | [_], _ :: _ :: _, h => simp [ckE] at h
    | _ :: _ :: _, _, h => simp [ckE] at h
  | BoolOp _ _ _ => cases hb
  | _ => simp [ckE] at h
theorem se_chain {o o' : COp} {a b c : E} (ih : SE W tb fs cf d ev) (GO : Good W tb fs cf d C X) (r : RS W cs H O B σ ρ g) (h : ckE tb fs (m + 1) C e (.chain o o' a b c) = true) (hb : isBop e = false) (he : evE1 tb cf ev ρ g (.chain o o' a b c) = some (.v pv, g')) (q : PostE W fs cs H O g' (.chain o o' a b c) pv Q) :
    ∃ l l2 l3 p, e = .Compare l [copOf o, copOf o'] [l2, l3] p ∧ lastMarks [copOf o, copOf o'] [l2, l3] = false ∧ tChain (rW X (compareOp (copOf o))) (rW X (compareOp (copOf o'))) (eW X l) (eW X l2) (eW X l3) σ H Q := by
  cases e with
  | Compare l ops es p =>
    match ops, es, h with
    | [op, op'], [l2, l3], h =>
      simp only [ckE, Bool.and_eq_true] at h
      obtain ⟨⟨⟨⟨⟨h0, h0'⟩, h1⟩, h2⟩, h3⟩, h4⟩ := h
      have h0 := of_decide_eq_true h0
      have h0' := of_decide_eq_true h0'
      subst h0 h0'
      obtain ⟨v, g1, e1, he⟩ := bd_v he
      obtain ⟨w, g2, e2, he⟩ := bd_v he
      refine ⟨l, l2, l3, p, rfl, marks_of h4, ih C X m l a cs H O B σ ρ g g1 v _ GO h1 r e1 fun z H1 k1 c1 a1 => ?_⟩
      have r1 := r.keep k1 c1
      refine ih C X m l2 b cs H1 O B σ ρ g1 g2 w _ GO h2 r1 e2 fun y H2 k2 c2 a2 => ?_
      have r2 := r1.keep k2 c2
      cases e3 : cmpV o v w with
      | none => rw [e3] at he; cases he
      | some u =>
        rw [e3] at he
        refine cmp_ok GO.gx c2 e3 (a1.r2.keep k2 c1).one a2.r2.one fun z2 H3 k3 c3 p3 => ⟨u, by cases p3.rep; rfl, ?_⟩
        cases u with
        | true =>
          obtain ⟨t, g3, e4, he⟩ := bd_v he
          obtain ⟨e5, rfl⟩ := lf_v he
          obtain ⟨u, e5', rfl⟩ := omap_v e5
          rw [if_pos rfl]
          refine ih C X m l3 c cs H3 O B σ ρ g2 g' t _ GO h3 (r2.keep k3 c3) e4 fun y3 H4 k4 c4 a4 => ?_
          exact cmp_ok GO.gx c4 e5' ((a2.r2.keep k3 c2).keep k4 c3).one a4.r2.one (Ans.of q (((k1.trans k2).trans k3).trans k4) rfl)
        | false =>
          obtain ⟨rfl, rfl⟩ := rt_v he
          rw [if_neg (by decide)]
          exact q_bl q ((k1.trans k2).trans k3) c3
    | [], _, h => simp [ckE] at h
    | [_], [], h => simp [ckE] at h
    | [_], _ :: _, h => simp [ckE] at h
    | [_, _], [], h => simp [ckE] at h
    | [_, _], [_], h => simp [ckE] at h
    | [_, _], _ :: _ :: _ :: _, h => simp [ckE] at h
    | _ :: _ :: _ :: _, _, h => simp [ckE] at h
  | BoolOp _ _ _ => cases hb
  | _ => simp [ckE] at h
theorem se_isN {a : E} (ih : SE W tb fs cf d ev) (GO : Good W tb fs cf d C X) (r : RS W cs H O B σ ρ g) (h : ckE tb fs (m + 1) C e (.isN a) = true) (hb : isBop e = false) (he : evE1 tb cf ev ρ g (.isN a) = some (.v pv, g')) (q : PostE W fs cs H O g' (.isN a) pv Q) :
    ∃ l j pj p, e = .Compare l [.Is] [.Constant .none j pj] p ∧ tIsN (eW X l) σ H Q := by
  cases e with
  | Compare l ops es p =>
    match ops, es, h with
    | [op], [.Constant k j pj], h =>
      simp only [ckE, Bool.and_eq_true] at h
      obtain ⟨⟨⟨h0, h1⟩, h2⟩, h3⟩ := h
      have h0 := of_decide_eq_true h0
      have h1 := of_decide_eq_true h1
      subst h0 h1
      obtain ⟨v, g1, e1, he⟩ := bd_v he
      refine ⟨l, j, pj, p, rfl, ih C X m l a cs H O B σ ρ g g1 v _ GO h2 r e1 fun z H1 k1 c1 a1 => ?_⟩
      rw [rep_non (a1.rep (by simpa using h3))]
      cases v <;> (obtain ⟨rfl, rfl⟩ := rt_v he; exact q_bl q k1 c1)
    | [], _, h => simp [ckE] at h
    | _ :: _ :: _, _, h => simp [ckE] at h
    | [_], [], h => simp [ckE] at h
    | [_], _ :: _ :: _, h => simp [ckE] at h
    | [_], [x], h =>
      cases x with
      | Constant k j pj =>
        simp only [ckE, Bool.and_eq_true] at h
        obtain ⟨⟨⟨h0, h1⟩, h2⟩, h3⟩ := h
        have h0 := of_decide_eq_true h0
        have h1 := of_decide_eq_true h1
        subst h0 h1
        obtain ⟨v, g1, e1, he⟩ := bd_v he
        refine ⟨l, j, pj, p, rfl, ih C X m l a cs H O B σ ρ g g1 v _ GO h2 r e1 fun z H1 k1 c1 a1 => ?_⟩
        rw [rep_non (a1.rep (by simpa using h3))]
        cases v <;> (obtain ⟨rfl, rfl⟩ := rt_v he; exact q_bl q k1 c1)
      | _ => simp [ckE] at h
  | BoolOp _ _ _ => cases hb
  | _ => simp [ckE] at h
theorem se_isNN {a : E} (ih : SE W tb fs cf d ev) (GO : Good W tb fs cf d C X) (r : RS W cs H O B σ ρ g) (h : ckE tb fs (m + 1) C e (.isNN a) = true) (hb : isBop e = false) (he : evE1 tb cf ev ρ g (.isNN a) = some (.v pv, g')) (q : PostE W fs cs H O g' (.isNN a) pv Q) :
    ∃ l j pj p, e = .Compare l [.IsNot] [.Constant .none j pj] p ∧ tNotN (eW X l) σ H Q := by
  cases e with
  | Compare l ops es p =>
    match ops, es, h with
    | [], _, h => simp [ckE] at h
    | _ :: _ :: _, _, h => simp [ckE] at h
    | [_], [], h => simp [ckE] at h
    | [_], _ :: _ :: _, h => simp [ckE] at h
    | [_], [x], h =>
      cases x with
      | Constant k j pj =>
        simp only [ckE, Bool.and_eq_true] at h
        obtain ⟨⟨⟨h0, h1⟩, h2⟩, h3⟩ := h
        have h0 := of_decide_eq_true h0
        have h1 := of_decide_eq_true h1
        subst h0 h1
        obtain ⟨v, g1, e1, he⟩ := bd_v he
        refine ⟨l, j, pj, p, rfl, ih C X m l a cs H O B σ ρ g g1 v _ GO h2 r e1 fun z H1 k1 c1 a1 => ?_⟩
        rw [rep_non (a1.rep (by simpa using h3))]
        cases v <;> (obtain ⟨rfl, rfl⟩ := rt_v he; exact q_bl q k1 c1)
      | _ => simp [ckE] at h
  | BoolOp _ _ _ => cases hb
  | _ => simp [ckE] at h
theorem se_ite {c a b : E} (ih : SE W tb fs cf d ev) (iht : ST W tb fs cf d ev) (GO : Good W tb fs cf d C X) (r : RS W cs H O B σ ρ g) (h : ckE tb fs (m + 1) C e (.ite c a b) = true) (hb : isBop e = false) (he : evE1 tb cf ev ρ g (.ite c a b) = some (.v pv, g')) (q : PostE W fs cs H O g' (.ite c a b) pv Q) : eW X e σ H Q := by
  cases e with
  | IfExp t x y p =>
    simp only [ckE, Bool.and_eq_true] at h
    obtain ⟨⟨⟨⟨h0, h1⟩, h2⟩, h3⟩, h4⟩ := h
    obtain ⟨k, g1, e1, he⟩ := bd_v he
    obtain ⟨w, g2, e1, e2⟩ := bd_v e1
    cases w with
    | bl b0 =>
      obtain ⟨rfl, rfl⟩ := rt_v e2
      refine PE.w (pe_ifExp pt_w pe_w pe_w) (iht C X m t c cs H O B σ ρ g g1 b0 _ GO h0 r e1 fun H1 k1 c1 => ?_)
      have p1 : isPk a = false := by simpa using h3
      have p2 : isPk b = false := by simpa using h4
      cases b0 with
      | true =>
        rw [if_pos rfl]
        exact ih C X m _ a cs H1 O B σ ρ g1 g' pv _ GO h1 (r.keep k1 c1) he fun z2 H2 k2 c2 a2 => q z2 H2 (k1.trans k2) c2 ⟨a2.r2, fun _ => a2.rep p1, fun hf => by
          simp only [freshE, Bool.and_eq_true] at hf
          exact (a2.new hf.1).mono k1⟩
      | false =>
        rw [if_neg (by decide)]
        exact ih C X m _ b cs H1 O B σ ρ g1 g' pv _ GO h2 (r.keep k1 c1) he fun z2 H2 k2 c2 a2 => q z2 H2 (k1.trans k2) c2 ⟨a2.r2, fun _ => a2.rep p2, fun hf => by
          simp only [freshE, Bool.and_eq_true] at hf
          exact (a2.new hf.2).mono k1⟩
    | _ => cases e2
  | BoolOp _ _ _ => cases hb
  | _ => simp [ckE] at h
end
end Z
end

section
set_option Elab.async false
set_option linter.all false
set_option maxRecDepth 100000
set_option maxHeartbeats 2000000
/-! Z12: calls, subscripts, displays. -/
namespace Z
open PySem L2
section
variable {W : Wd} {tb : Tab} {fs : List Fd} {cf : CF} {d : Nat} {ev : EV} {C : SC} {X : Cx} {m : Nat} {cs : List Addr} {H : Hp} {O B : Own} {σ : L2.St} {ρ : Env} {g g' : G} {Q : VK} {e : Expr} {pv : PV}
/-- f(..) by values, as an expression's answer -/
theorem call_ans (GO : Good W tb fs cf d C X) {k : Nat} {vs : List V} {ps : List PV} {H1 : Hp} {g1 : G} {ie : E} (hk : cf k ps g1 = some (.v pv, g')) (rs : Reps W cs H1 O vs ps) (k1 : Keep cs H H1) (c1 : CellsOk W cs H1 O g1) (dom : ∀ a, O a → ∃ o, H1 a = some o)
    (hf : freshE fs ie = true → ∃ f, fs[k]? = some f ∧ f.fresh = true) (q : PostE W fs cs H O g' ie pv Q) : cW X (.ref (W.fa k)) vs H1 Q := by
  obtain ⟨f, hfs, _⟩ := GO.fns.no k ps g1 g' pv hk
  refine GO.call hfs hk rs c1 dom fun z H2 k2 c2 r2 n2 => q z H2 (k1.trans k2) c2 ⟨.inl r2, fun _ => r2, fun hx => ?_⟩
  obtain ⟨f', e', hx⟩ := hf hx
  rw [hfs] at e'; cases e'
  exact (n2 hx).mono k1
theorem se_call {k : Nat} {l : List E} (ih : SE W tb fs cf d ev) (GO : Good W tb fs cf d C X) (r : RS W cs H O B σ ρ g) (h : ckE tb fs (m + 1) C e (.call k l) = true) (hb : isBop e = false) (he : evE1 tb cf ev ρ g (.call k l) = some (.v pv, g')) (q : PostE W fs cs H O g' (.call k l) pv Q) : eW X e σ H Q := by
  cases e with
  | Call f args kws p =>
    cases f with
    | Name x p2 =>
      cases kws with
      | nil =>
        simp only [ckE, Bool.and_eq_true] at h
        obtain ⟨⟨⟨⟨h0, h1⟩, h2⟩, h3⟩, h4⟩ := h
        have h0 := of_decide_eq_true h0
        obtain ⟨vs, g1, e1, he⟩ := bd_v he
        obtain ⟨f, hfs, _⟩ := GO.fns.no k vs g1 g' pv he
        rw [hfs] at h0
        have h0 : f.name = x := Option.some.inj h0
        subst h0
        obtain ⟨b1, b2, b3, _⟩ := GO.fns.at_ k f hfs
        have hK := GO.gx.K
        have fr : freshE fs (.call k l) = true → ∃ f, fs[k]? = some f ∧ f.fresh = true := fun hx => by
          simp only [freshE, hfs] at hx
          exact ⟨f, hfs, hx⟩
        cases args with
        | nil =>
          refine PE.w (pe_callW0 (GO.glb h1) b2 (by rw [hK]; exact b3) (okName_1 h2)) ?_
          have hl : l = [] := by
            cases l with
            | nil => rfl
            | cons _ _ => simp [ckL] at h3
          subst hl
          obtain ⟨rfl, rfl⟩ := rt_v e1
          exact call_ans GO he .nil (.refl _ _) r.cells r.dom fr q
        | cons a as =>
          refine PE.w (pe_callW (GO.glb h1) b2 (by rw [hK]; exact b3) (okName_1 h2) (ckL_star h3)) (args_ok ih GO h3 h4 r e1 fun zs H1 k1 c1 rs => ?_)
          exact call_ans GO he rs k1 c1 (r.keep k1 c1).dom fr q
      | cons _ _ => simp [ckE] at h
    | _ => simp [ckE] at h
  | BoolOp _ _ _ => cases hb
  | _ => simp [ckE] at h
theorem se_callv {i : Nat} {l : List E} (ih : SE W tb fs cf d ev) (GO : Good W tb fs cf d C X) (r : RS W cs H O B σ ρ g) (h : ckE tb fs (m + 1) C e (.callv i l) = true) (hb : isBop e = false) (he : evE1 tb cf ev ρ g (.callv i l) = some (.v pv, g')) (q : PostE W fs cs H O g' (.callv i l) pv Q) : eW X e σ H Q := by
  cases e with
  | Call f args kws p =>
    cases f with
    | Name x p2 =>
      cases kws with
      | nil =>
        simp only [ckE, Bool.and_eq_true] at h
        obtain ⟨⟨⟨⟨⟨h0, h1⟩, h2⟩, h3⟩, h4⟩, h5⟩ := h
        simp only [evE1] at he
        split at he
        · rename_i k hρ
          obtain ⟨vs, g1, e1, he⟩ := bd_v he
          obtain ⟨f, hfs, _⟩ := GO.fns.no k vs g1 g' pv he
          obtain ⟨b1, b2, b3, _⟩ := GO.fns.at_ k f hfs
          have hK := GO.gx.K
          obtain ⟨w, hs, hr⟩ := r.at_ _ _ hρ
          cases hr with
          | fn _ _ =>
            cases args with
            | nil => simp at h5
            | cons a as =>
              refine PE.w (pe_callV (k := k) (W := W) (GO.ix h0) (GO.vis h1) (by rw [hK]; exact b3) h2 (ckL_star h3)) ⟨hs, args_ok ih GO h3 h4 r e1 fun zs H1 k1 c1 rs => ?_⟩
              exact call_ans GO he rs k1 c1 (r.keep k1 c1).dom (fun hx => by cases hx) q
        · cases he
      | cons _ _ => simp [ckE] at h
    | _ => simp [ckE] at h
  | BoolOp _ _ _ => cases hb
  | _ => simp [ckE] at h
theorem se_bi {b : Bi} {a : E} (ih : SE W tb fs cf d ev) (GO : Good W tb fs cf d C X) (r : RS W cs H O B σ ρ g) (h : ckE tb fs (m + 1) C e (.bi b a) = true) (hb : isBop e = false) (he : evE1 tb cf ev ρ g (.bi b a) = some (.v pv, g')) (q : PostE W fs cs H O g' (.bi b a) pv Q) : eW X e σ H Q := by
  cases e with
  | Call f args kws p =>
    cases f with
    | Name x p2 =>
      match args, kws, h with
      | [l], [], h =>
        simp only [ckE, Bool.and_eq_true] at h
        obtain ⟨⟨⟨h0, h1⟩, h2⟩, h3⟩ := h
        have h0 := of_decide_eq_true h0
        subst h0
        obtain ⟨v, g1, e1, he⟩ := bd_v he
        obtain ⟨e3, rfl⟩ := lf_v he
        refine PE.w (pe_bi (GO.glb h1) (GO.bl _ (bi_mem b)) h3) (arg1 ih GO h2 h3 r e1 fun z H1 k1 c1 a1 => ?_)
        exact bi_ok GO.gx c1 (r.keep k1 c1).dom e3 a1.r2.one (Ans.of q k1 rfl)
      | [], _, h => simp [ckE] at h
      | _ :: _ :: _, _, h => simp [ckE] at h
      | [_], _ :: _, h => simp [ckE] at h
    | _ => simp [ckE] at h
  | BoolOp _ _ _ => cases hb
  | _ => simp [ckE] at h
theorem se_isi {t : Ty} {a : E} (ih : SE W tb fs cf d ev) (GO : Good W tb fs cf d C X) (r : RS W cs H O B σ ρ g) (h : ckE tb fs (m + 1) C e (.isi t a) = true) (hb : isBop e = false) (he : evE1 tb cf ev ρ g (.isi t a) = some (.v pv, g')) (q : PostE W fs cs H O g' (.isi t a) pv Q) : eW X e σ H Q := by
  cases e with
  | Call f args kws p =>
    cases f with
    | Name x p2 =>
      match args, kws, h with
      | [l, l2], [], h =>
        cases l2 with
        | Name y p3 =>
          simp only [ckE, Bool.and_eq_true] at h
          obtain ⟨⟨⟨⟨⟨h0, h0'⟩, h1⟩, h1'⟩, h2⟩, h3⟩ := h
          have h0 := of_decide_eq_true h0
          have h0' := of_decide_eq_true h0'
          subst h0 h0'
          obtain ⟨v, g1, e1, he⟩ := bd_v he
          obtain ⟨e3, rfl⟩ := lf_v he
          obtain ⟨u, e3', rfl⟩ := omap_v e3
          refine PE.w (pe_isi (GO.glb h1) (GO.bl _ (by decide)) (GO.glb h1') (GO.bl _ (ty_mem t)) h3) (ih C X m l a cs H O B σ ρ g g' v _ GO h2 r e1 fun z H1 k1 c1 a1 => ?_)
          exact isi_ok GO.gx c1 e3' a1.r2.one (Ans.of q k1 rfl)
        | _ => simp [ckE] at h
      | [], _, h => simp [ckE] at h
      | [_], _, h => simp [ckE] at h
      | _ :: _ :: _ :: _, _, h => simp [ckE] at h
      | [_, _], _ :: _, h => simp [ckE] at h
    | _ => simp [ckE] at h
  | BoolOp _ _ _ => cases hb
  | _ => simp [ckE] at h
theorem se_idx {a i : E} (ih : SE W tb fs cf d ev) (GO : Good W tb fs cf d C X) (r : RS W cs H O B σ ρ g) (h : ckE tb fs (m + 1) C e (.idx a i) = true) (hb : isBop e = false) (he : evE1 tb cf ev ρ g (.idx a i) = some (.v pv, g')) (q : PostE W fs cs H O g' (.idx a i) pv Q) : eW X e σ H Q := by
  cases e with
  | Subscript l l2 p =>
    simp only [ckE, Bool.and_eq_true] at h
    obtain ⟨⟨h1, h2⟩, h3⟩ := h
    obtain ⟨v, g1, e1, he⟩ := bd_v he
    obtain ⟨w, g2, e2, he⟩ := bd_v he
    obtain ⟨e3, rfl⟩ := lf_v he
    refine PE.w (pe_ix (ix_list.or ix_tup) pe_w pe_w (plainIx_of h3)) (ih C X m l a cs H O B σ ρ g g1 v _ GO h1 r e1 fun z H1 k1 c1 a1 => ?_)
    refine ih C X m l2 i cs H1 O B σ ρ g1 g' w _ GO h2 (r.keep k1 c1) e2 fun y H2 k2 c2 a2 => ?_
    exact idx_ok GO.gx c2 e3 (a1.r2.keep k2 c1).one a2.r2.one fun z3 H3 k3 c3 r3 => q z3 H3 ((k1.trans k2).trans k3) c3 (.plain r3)
  | BoolOp _ _ _ => cases hb
  | _ => simp [ckE] at h
theorem evO_ok (ih : SE W tb fs cf d ev) (GO : Good W tb fs cf d C X) {o : Option Expr} {io : Option E} {v : Option Int} {Q : Option Int → Hp → Prop} (h : ckO (ckE tb fs m C) o io = true) (r : RS W cs H O B σ ρ g) (he : evO ev ρ g io = some (.v v, g'))
    (q : ∀ H', Keep cs H H' → CellsOk W cs H' O g' → Q v H') : oW X o σ H Q := by
  cases o with
  | none =>
    cases io with
    | none =>
      obtain ⟨rfl, rfl⟩ := rt_v he
      exact PO.w po_none (q H (.refl _ _) r.cells)
    | some _ => simp [ckO] at h
  | some e =>
    cases io with
    | none => simp [ckO] at h
    | some i =>
      obtain ⟨w, g1, e1, he⟩ := bd_v he
      cases w with
      | int j =>
        obtain ⟨rfl, rfl⟩ := rt_v he
        refine PO.w (po_some pe_w) (ih C X m e i cs H O B σ ρ g g' (.int j) _ GO h r e1 fun z H1 k1 c1 a1 => ⟨j, a1.r2.one.int, q H1 k1 c1⟩)
      | _ => cases he
theorem se_sl {a : E} {lo hi : Option E} (ih : SE W tb fs cf d ev) (GO : Good W tb fs cf d C X) (r : RS W cs H O B σ ρ g) (h : ckE tb fs (m + 1) C e (.sl a lo hi) = true) (hb : isBop e = false) (he : evE1 tb cf ev ρ g (.sl a lo hi) = some (.v pv, g')) (q : PostE W fs cs H O g' (.sl a lo hi) pv Q) : eW X e σ H Q := by
  cases e with
  | Subscript l l2 p =>
    cases l2 with
    | Slice x y st p2 =>
      cases st with
      | none =>
        simp only [ckE, Bool.and_eq_true] at h
        obtain ⟨⟨h1, h2⟩, h3⟩ := h
        obtain ⟨v, g1, e1, he⟩ := bd_v he
        obtain ⟨u, g2, e2, he⟩ := bd_v he
        obtain ⟨w, g3, e3, he⟩ := bd_v he
        obtain ⟨e4, rfl⟩ := lf_v he
        refine PE.w (pe_slice (sl_list.or sl_tupA) pe_w po_w po_w) (ih C X m l a cs H O B σ ρ g g1 v _ GO h1 r e1 fun z H1 k1 c1 a1 => ?_)
        have r1 := r.keep k1 c1
        refine evO_ok ih GO h2 r1 e2 fun H2 k2 c2 => ?_
        have r2 := r1.keep k2 c2
        refine evO_ok ih GO h3 r2 e3 fun H3 k3 c3 => ?_
        exact sl_ok GO.gx c3 (r2.keep k3 c3).dom e4 ((a1.r2.keep k2 c1).keep k3 c2).one (Ans.of q ((k1.trans k2).trans k3) rfl)
      | some _ => simp [ckE] at h
    | _ => simp [ckE] at h
  | BoolOp _ _ _ => cases hb
  | _ => simp [ckE] at h
theorem se_rev {a : E} (ih : SE W tb fs cf d ev) (GO : Good W tb fs cf d C X) (r : RS W cs H O B σ ρ g) (h : ckE tb fs (m + 1) C e (.rev a) = true) (hb : isBop e = false) (he : evE1 tb cf ev ρ g (.rev a) = some (.v pv, g')) (q : PostE W fs cs H O g' (.rev a) pv Q) : eW X e σ H Q := by
  obtain ⟨v, g1, e1, he⟩ := bd_v he
  obtain ⟨e2, rfl⟩ := lf_v he
  have key : ∃ l k p1 p2 p3 p, e = .Subscript l (.Slice none none (some (.UnaryOp .USub (.Constant (.int 1) k p1) p2)) p3) p ∧ ckE tb fs m C l a = true := by
    simp only [ckE] at h
    split at h
    · cases hb
    · split at h
      · simp only [Bool.and_eq_true] at h
        obtain ⟨⟨h0, h0'⟩, h1⟩ := h
        have h0 := of_decide_eq_true h0
        have h0' := of_decide_eq_true h0'
        subst h0 h0'
        exact ⟨_, _, _, _, _, _, rfl, h1⟩
      · cases h
  obtain ⟨l, k, p1, p2, p3, p, rfl, h1⟩ := key
  refine PE.w (pe_revA pe_w) (ih C X m l a cs H O B σ ρ g g' v _ GO h1 r e1 fun z H1 k1 c1 a1 => ?_)
  have dom := (r.keep k1 c1).dom
  have hK := GO.gx.K
  cases v with
  | lst l =>
    cases e2
    obtain ⟨p, xs, rfl, b1, b2, b3⟩ := a1.r2.one.lst
    exact ⟨p, xs, rfl, .inl ⟨.inl (.inl b1), fun p hp => (Ans.of q k1 rfl).lst c1 dom hp (by rw [List.length_reverse]; exact b2) b3.reverse⟩⟩
  | tup l =>
    cases e2
    obtain ⟨p, xs, rfl, b1, b2, b3⟩ := a1.r2.one.tup
    exact ⟨p, xs, rfl, .inr ⟨by rw [hK]; exact b1.sq, fun p hp => (Ans.of q k1 rfl).tup c1 dom hp (by rw [List.length_reverse]; exact b2) b3.reverse⟩⟩
  | _ => cases e2
theorem se_tup {l : List E} (ih : SE W tb fs cf d ev) (GO : Good W tb fs cf d C X) (r : RS W cs H O B σ ρ g) (h : ckE tb fs (m + 1) C e (.tup l) = true) (hb : isBop e = false) (he : evE1 tb cf ev ρ g (.tup l) = some (.v pv, g')) (q : PostE W fs cs H O g' (.tup l) pv Q) : eW X e σ H Q := by
  cases e with
  | Tuple es k p =>
    simp only [ckE, Bool.and_eq_true] at h
    obtain ⟨⟨h1, h2⟩, h3⟩ := h
    have h3 := of_decide_eq_true h3
    obtain ⟨vs, g1, e1, he⟩ := bd_v he
    obtain ⟨rfl, rfl⟩ := rt_v he
    refine PE.w (pe_tup pa_w) (args_ok ih GO h1 h2 r e1 fun zs H1 k1 c1 rs => ?_)
    have hz : zs.length ≤ LIM := by
      rw [rs.length, evL_length e1]
      exact Nat.le_trans h3 (by decide)
    exact ⟨lim_le hz, fun p hp => (Ans.of q k1 rfl).tup c1 (r.keep k1 c1).dom hp hz rs⟩
  | BoolOp _ _ _ => cases hb
  | _ => simp [ckE] at h
theorem se_lst {l : List E} (ih : SE W tb fs cf d ev) (GO : Good W tb fs cf d C X) (r : RS W cs H O B σ ρ g) (h : ckE tb fs (m + 1) C e (.lst l) = true) (hb : isBop e = false) (he : evE1 tb cf ev ρ g (.lst l) = some (.v pv, g')) (q : PostE W fs cs H O g' (.lst l) pv Q) : eW X e σ H Q := by
  cases e with
  | List es p =>
    simp only [ckE, Bool.and_eq_true] at h
    obtain ⟨⟨h1, h2⟩, h3⟩ := h
    have h3 := of_decide_eq_true h3
    obtain ⟨vs, g1, e1, he⟩ := bd_v he
    obtain ⟨rfl, rfl⟩ := rt_v he
    refine PE.w (pe_lst pa_w) (args_ok ih GO h1 h2 r e1 fun zs H1 k1 c1 rs => ?_)
    have hz : zs.length ≤ LIM := by
      rw [rs.length, evL_length e1]
      exact Nat.le_trans h3 (by decide)
    exact ⟨lim_le hz, fun p hp => (Ans.of q k1 rfl).lst c1 (r.keep k1 c1).dom hp hz rs⟩
  | BoolOp _ _ _ => cases hb
  | _ => simp [ckE] at h
theorem few_of {o : Expr} {cp : Pos} {l : Expr} {env : PySem.Env} (h : notStar l = true) : ((backTo cp (starEach [l] env)).all (fun x => !x.1) && (backToKw cp (keywordEach [] env)).all (fun x => x.1.isSome)
      && decide ([l].length + ([] : List Keyword).length + (if ([] : List Keyword).isEmpty then 0 else 1) < 30)) = true := by
  rw [star_cons h]; rfl
theorem se_mt {k : Mt} {a b : E} (ih : SE W tb fs cf d ev) (GO : Good W tb fs cf d C X) (r : RS W cs H O B σ ρ g) (h : ckE tb fs (m + 1) C e (.mt k a b) = true) (hb : isBop e = false) (he : evE1 tb cf ev ρ g (.mt k a b) = some (.v pv, g')) (q : PostE W fs cs H O g' (.mt k a b) pv Q) : eW X e σ H Q := by
  cases e with
  | Call f args kws p =>
    cases f with
    | Attribute o x ap =>
      match args, kws, h with
      | [l], [], h =>
        simp only [ckE, Bool.and_eq_true] at h
        obtain ⟨⟨⟨⟨⟨h0, h1⟩, h2⟩, h3⟩, h4⟩, h5⟩ := h
        have h0 := of_decide_eq_true h0
        subst h0
        obtain ⟨v, g1, e1, he⟩ := bd_v he
        obtain ⟨w, g2, e2, he⟩ := bd_v he
        obtain ⟨e3, rfl⟩ := lf_v he
        cases k with
        | index =>
          cases v with
          | lst l0 =>
            simp only [mtV] at e3
            split at e3
            · rename_i hz
              rw [Bool.and_eq_true] at hz
              obtain ⟨j, hj, rfl⟩ := omap_v e3
              refine PE.w (pe_bm PySem.F.plainAttrs_list PySem.F.slot_list_index PySem.F.type_list_index mt_indexP pe_w (pa_cons pe_w pa_nil (star_cons h3)) (base_of h4) (few_of (o := o) h3) h5 (star_cons h3) rfl) (ih C X m o a cs H O B σ ρ g g1 _ _ GO h1 r e1 fun z H1 k1 c1 a1 => ?_)
              obtain ⟨p1, xs, rfl, b1, b2, b3⟩ := a1.r2.one.lst
              refine ⟨.inl ⟨rfl, xs, .inl (.inl b1)⟩, ih C X m l b cs H1 O B σ ρ g1 g' w _ GO h2 (r.keep k1 c1) e2 fun y H2 k2 c2 a2 => ?_⟩
              obtain ⟨p1', xs', e', b1', b2', b3'⟩ := (a1.r2.keep k2 c1).one.lst
              cases e'
              have hK := GO.gx.K
              obtain ⟨_, zd, q1, q2, q3⟩ := place_at DEEP DEEP w hz.1 _ 0 j hz.2 hj
              refine ⟨p1, xs', y, w.toD, PV.toDs _, j, zd, rfl, rfl, b1', by rw [hK]; exact b3'.dp _ hz.2, by rw [hK]; exact a2.r2.one.dp _ hz.1, (okds_plain _ _ hz.2).1, (okd_deep hz.1).1, (okd_deep hz.1).2, GO.gx.un, by simpa using q1, q2, fun m z' hm => q3 m z' (by simpa using hm), ?_⟩
              exact q_int q (k1.trans k2) c2
            · cases e3
          | _ => cases w <;> cases e3
        | count => cases v <;> cases e3
      | [], _, h => simp [ckE] at h
      | _ :: _ :: _, _, h => simp [ckE] at h
      | [_], _ :: _, h => simp [ckE] at h
    | _ => simp [ckE] at h
  | BoolOp _ _ _ => cases hb
  | _ => simp [ckE] at h
end
end Z
end

section
set_option Elab.async false
set_option linter.all false
set_option maxRecDepth 100000
set_option maxHeartbeats 2000000
/-! Z13: sources of turns, comprehensions. -/
namespace L2
open PySem PySem.Spec PyProof.Rows
section
variable {X : Cx} {tg : Expr}
def iSeq (K : PySem.W.Frag) (tl : TE) : TI := fun σ H R => tl σ H fun x H1 => ∃ a, x = .ref a ∧ (((∃ xs, SqL K H1 a xs) ∧ R (Itl K a) H1) ∨ ((∃ xs, SqT K H1 a xs) ∧ R (Itt K a) H1))
theorem pi_seq {l : Expr} {tl : TE} (hl : PE X l tl) : PI X tg l (iSeq X.K tl) := by
  refine ⟨fun pins s σ H R I h => ?_⟩
  refine thn (hl.run pins s σ H _ I h) fun v s1 ⟨x, H1, I1, r1, q1⟩ => ?_
  obtain ⟨a, e, ⟨⟨xs, hq⟩, q⟩ | ⟨⟨xs, hq⟩, q⟩⟩ := q1
  · subst e
    cases r1
    obtain ⟨its, rv, p, hz⟩ := I1.list hq
    refine wpAny_pyIter_list p.isList ?_
    refine ⟨s1.heap.objs.size, [s1.heap.objs.size], _, _, H1, rfl, I1.kept (t' := s1.toks) fun b o e => Heap.get?_push_of_some _ e, turn_list a _, ⟨_, Heap.get?_push_size _ rfl, rfl, rfl⟩, fun b hb => ?_, q⟩
    have e : b = s1.heap.objs.size := by simpa using hb
    subst e
    exact I1.fpOk (Nat.le_refl _) (I1.hok.fresh (Nat.le_refl _))
  · subst e
    cases r1
    obtain ⟨its, rv, p, hz⟩ := I1.tuple hq
    refine wpAny_pyIter_tuple (show s1.heap.IsTuple a its.toArray from p) ?_
    refine ⟨s1.heap.objs.size, [s1.heap.objs.size], _, _, H1, rfl, I1.kept (t' := s1.toks) fun b o e => Heap.get?_push_of_some _ e, turn_tuple a _, ⟨_, Heap.get?_push_size _ rfl, rfl, rfl⟩, fun b hb => ?_, q⟩
    have e : b = s1.heap.objs.size := by simpa using hb
    subst e
    exact I1.fpOk (Nat.le_refl _) (I1.hok.fresh (Nat.le_refl _))
end
end L2
namespace Z
open PySem L2
theorem small_of {i : Int} (h : smallB i = true) : -(2 ^ 62) ≤ i ∧ i < 2 ^ 62 := by
  unfold smallB at h
  rw [Bool.and_eq_true, decide_eq_true_eq, decide_eq_true_eq] at h
  exact ⟨by omega, by omega⟩
theorem isTup_of {e : Expr} (h : isTup e = true) : ∃ es k p, e = .Tuple es k p := by
  cases e <;> first | exact ⟨_, _, _, rfl⟩ | cases h
section
variable {W : Wd} {tb : Tab} {fs : List Fd} {cf : CF} {d : Nat} {ev : EV} {C : SC} {X : Cx} {m : Nat} {cs : List Addr} {H : Hp} {O B : Own} {σ : L2.St} {ρ : Env} {g g' : G} {Q : VK} {e : Expr} {pv : PV}
theorem it_ok (ih : SE W tb fs cf d ev) (GO : Good W tb fs cf d C X) {it : It} {tg iter : Expr} {its : List PV} {R : L2.It → Hp → Prop} (h : ckIt (ckE tb fs m C) C tg iter it = true) (r : RS W cs H O B σ ρ g) (he : evIt ev ρ g it = some (.v its, g'))
    (q : ∀ J H1 A, Keep cs H H1 → CellsOk W cs H1 O g' → Stps W cs H1 O A J its → (∀ a, A a → a ∉ cs) → (∀ a, A a → ∃ o, H1 a = some o) → (itPk it = false → ∀ a, A a → ¬ O a) → its.length ≤ LIM → R J H1) : iW X tg iter σ H R := by
  have hK := GO.gx.K
  cases it with
  | seq a =>
    simp only [ckIt] at h
    obtain ⟨v, g1, e1, he⟩ := bd_v he
    obtain ⟨e2, rfl⟩ := lf_v he
    refine PI.w (pi_seq pe_w) (ih C X m iter a cs H O B σ ρ g g' v _ GO h r e1 fun z H1 k1 c1 a1 => ?_)
    obtain ⟨k, p, xs, A, rfl, s, hz, rs, n1, n2, n3⟩ := Rep2.src c1.sub a1.r2 e2
    have st := stps_seq s rs
    have hl : its.length ≤ LIM := by rw [← rs.length]; exact hz
    rw [hK]
    cases k with
    | true => exact ⟨p, rfl, .inl ⟨⟨xs, s.sq (H2 := H1) fun b _ o e => e⟩, q _ H1 A k1 c1 st n1 n2 (fun hp => n3 (a1.rep hp)) hl⟩⟩
    | false => exact ⟨p, rfl, .inr ⟨⟨xs, s.sq (H2 := H1) fun b _ o e => e⟩, q _ H1 A k1 c1 st n1 n2 (fun hp => n3 (a1.rep hp)) hl⟩⟩
  | rng1 a =>
    simp only [ckIt] at h
    split at h
    · simp only [Bool.and_eq_true] at h
      obtain ⟨⟨⟨h0, h1⟩, h2⟩, h3⟩ := h
      have h0 := of_decide_eq_true h0
      subst h0
      obtain ⟨v, g1, e1, he⟩ := bd_v he
      obtain ⟨e2, rfl⟩ := lf_v he
      refine PI.w (pi_range1 (GO.glb h1) (GO.bl _ (by decide)) pa_w (star_cons h3)) (arg1 ih GO h2 h3 r e1 fun z H1 k1 c1 a1 => ?_)
      cases v with
      | int j =>
        simp only [rng1V] at e2
        split at e2
        · rename_i hz
          cases e2
          rw [Bool.and_eq_true, decide_eq_true_eq] at hz
          exact ⟨j, by rw [a1.r2.one.int], (small_of hz.1).1, (small_of hz.1).2, q _ H1 _ k1 c1 stps_rng (fun _ z => z.elim) (fun _ z => z.elim) (fun _ _ z => z.elim) (by rw [rng_length]; exact hz.2)⟩
        · cases e2
      | _ => cases e2
    · cases h
  | rng2 a b =>
    simp only [ckIt] at h
    split at h
    · simp only [Bool.and_eq_true] at h
      obtain ⟨⟨⟨⟨⟨h0, h1⟩, h2⟩, h3⟩, h4⟩, h5⟩ := h
      have h0 := of_decide_eq_true h0
      subst h0
      obtain ⟨v, g1, e1, he⟩ := bd_v he
      obtain ⟨w, g2, e2, he⟩ := bd_v he
      obtain ⟨e3, rfl⟩ := lf_v he
      refine PI.w (pi_range2 (GO.glb h1) (GO.bl _ (by decide)) pa_w (by rw [star_cons h3, star_cons h5]; rfl) (star_cons h5)) (arg2 ih GO h2 h3 h4 h5 r e1 e2 fun z y H1 k1 c1 a1 a2 _ _ => ?_)
      cases v with
      | int i =>
        cases w with
        | int j =>
          simp only [rng2V] at e3
          split at e3
          · rename_i hz
            cases e3
            rw [Bool.and_eq_true, Bool.and_eq_true, decide_eq_true_eq] at hz
            exact ⟨i, j, by rw [a1.one.int, a2.one.int], ⟨(small_of hz.1.1).1, (small_of hz.1.1).2, (small_of hz.1.2).1, (small_of hz.1.2).2⟩, q _ H1 _ k1 c1 stps_rng (fun _ z => z.elim) (fun _ z => z.elim) (fun _ _ z => z.elim) (by rw [rng_length]; exact hz.2)⟩
          · cases e3
        | _ => cases e3
      | _ => cases e3
    · cases h
  | rng3 a b c => simp [ckIt] at h
  | zip a b =>
    simp only [ckIt, Bool.and_eq_true] at h
    obtain ⟨ht, h⟩ := h
    obtain ⟨es, k, p, rfl⟩ := isTup_of ht
    split at h
    · simp only [Bool.and_eq_true] at h
      obtain ⟨⟨⟨⟨⟨h0, h1⟩, h2⟩, h3⟩, h4⟩, h5⟩ := h
      have h0 := of_decide_eq_true h0
      subst h0
      obtain ⟨v, g1, e1, he⟩ := bd_v he
      obtain ⟨w, g2, e2, he⟩ := bd_v he
      obtain ⟨e3, rfl⟩ := lf_v he
      refine PI.w (pi_zipG (GO.glb h1) (GO.bl _ (by decide)) pa_w (star_cons h3) (by rw [star_cons h5]; rfl)) (arg2 ih GO h2 h3 h4 h5 r e1 e2 fun z y H1 k1 c1 a1 a2 p1 p2 => ?_)
      obtain ⟨l, l2, s1, s2, rfl⟩ : ∃ l l2, seqV v = some l ∧ seqV w = some l2 ∧ zipP l l2 = its := by
        unfold zipV at e3
        split at e3 <;> first | (cases e3; exact ⟨_, _, rfl, rfl, rfl⟩) | cases e3
      obtain ⟨k, b1, xs, A, rfl, s, hz, rs, n1, n2, n3⟩ := Rep2.src c1.sub a1 s1
      obtain ⟨k', b2, ys, A', rfl, s', hz', rs', n1', n2', n3'⟩ := Rep2.src c1.sub a2 s2
      refine ⟨b1, b2, k, k', xs, ys, rfl, by rw [hK]; exact s.sq (H2 := H1) fun b _ o e => e, by rw [hK]; exact s'.sq (H2 := H1) fun b _ o e => e, ?_⟩
      rw [hK]
      refine q _ H1 _ k1 c1 (stps_zip s s' rs rs') (fun c hc => hc.elim (n1 c) (n1' c)) (fun c hc => hc.elim (n2 c) (n2' c)) (fun hp c hc => ?_) ?_
      · simp only [itPk, Bool.or_eq_false_iff] at hp
        exact hc.elim (n3 (p1 hp.1) c) (n3' (p2 hp.2) c)
      · rw [zipP_length, ← rs.length]
        exact Nat.le_trans (Nat.min_le_left _ _) hz
    · cases h
  | enum a =>
    simp only [ckIt, Bool.and_eq_true] at h
    obtain ⟨ht, h⟩ := h
    obtain ⟨es, k, p, rfl⟩ := isTup_of ht
    split at h
    · simp only [Bool.and_eq_true] at h
      obtain ⟨⟨⟨h0, h1⟩, h2⟩, h3⟩ := h
      have h0 := of_decide_eq_true h0
      subst h0
      obtain ⟨v, g1, e1, he⟩ := bd_v he
      obtain ⟨e2, rfl⟩ := lf_v he
      refine PI.w (pi_enumG (GO.glb h1) (GO.bl _ (by decide)) pa_w (star_cons h3)) (arg1 ih GO h2 h3 r e1 fun z H1 k1 c1 a1 => ?_)
      obtain ⟨l, s1, rfl⟩ : ∃ l, seqV v = some l ∧ enumP 0 l = its := by
        unfold enumV at e2
        split at e2 <;> first | (cases e2; exact ⟨_, rfl, rfl⟩) | cases e2
      obtain ⟨k, b1, xs, A, rfl, s, hz, rs, n1, n2, n3⟩ := Rep2.src c1.sub a1.r2 s1
      refine ⟨b1, k, xs, rfl, by rw [hK]; exact s.sq (H2 := H1) fun b _ o e => e, ?_⟩
      rw [hK]
      refine q _ H1 _ k1 c1 (stps_enum s rs) n1 n2 (fun hp => n3 (a1.rep hp)) ?_
      rw [enumP_length, ← rs.length]
      exact hz
    · cases h
/-! ### comprehensions -/
def Acc (W : Wd) (cs : List Addr) (H : Hp) (O : Own) (D : Addr) (ps : List PV) : Prop := ∃ xs, H D = some (.lst xs) ∧ Reps W cs H O xs ps
theorem Keep.more {L L' : List Addr} {H1 : Hp} (k : Keep L H H1) (h : ∀ a ∈ L, a ∈ L') : Keep L' H H1 := ⟨fun a o e n => k.at_ a o e fun z => n (h a z), k.dom⟩
theorem Keep.upd {D : Addr} {o : HO} : Keep (D :: cs) H (upd H D o) := ⟨fun a u e n => by
    rw [upd_ne fun z => n (by rw [z]; exact List.mem_cons_self)]; exact e, fun a u e => by
    by_cases z : a = D
    · subst z; exact ⟨o, upd_same⟩
    · exact ⟨u, by rw [upd_ne z]; exact e⟩⟩
theorem Ext.upd {D : Addr} {o : HO} (h : O D) : Ext H O (upd H D o) O := ⟨fun a u e n => ⟨by
    rw [upd_ne fun z => n (by rw [z]; exact h)]; exact e, n⟩⟩
theorem drop_at {α : Type} {l : List α} {i : Nat} (h : i < l.length) : ∃ x, l[i]? = some x ∧ l.drop i = x :: l.drop (i + 1) :=
  ⟨l[i], by simp [h], by rw [List.drop_eq_getElem_cons h]⟩
theorem compGo_len {x : E} {t : T} {c : Option E} : ∀ {its : List PV} {g g' : G} {ws : List PV}, compGo ev ρ x t c g its = some (.v ws, g') → ws.length ≤ its.length
  | [], g, _, ws, h => by
    obtain ⟨rfl, _⟩ := rt_v h
    exact Nat.le_refl _
  | p :: its, g, _, ws, h => by
    simp only [compGo] at h
    split at h
    · cases h
    · obtain ⟨b, g1, _, h⟩ := bd_v h
      cases b with
      | false => exact Nat.le_succ_of_le (compGo_len h)
      | true =>
        obtain ⟨v, g2, _, h⟩ := bd_v h
        obtain ⟨vs, g3, h3, h⟩ := bd_v h
        obtain ⟨rfl, _⟩ := rt_v h
        exact Nat.succ_le_succ (compGo_len h3)
/-- the condition of a comprehension -/
theorem if_ok (ih : ST W tb fs cf d ev) (GO : Good W tb fs cf d C X) {ifs : List Expr} {c : Option E} {b : Bool} {Q : Bool → Hp → Prop} (h : ckIf (ckE tb fs m C) ifs c = true) (r : RS W cs H O B σ ρ g) (he : evCo ev ρ g c = some (.v b, g'))
    (q : ∀ H', Keep cs H H' → CellsOk W cs H' O g' → Q b H') : ifW X ifs σ H Q := by
  match ifs, c, h with
  | [], none, _ =>
    obtain ⟨rfl, rfl⟩ := rt_v he
    exact PTs.w pts_nil (q H (.refl _ _) r.cells)
  | [e], some i, h =>
    obtain ⟨v, g1, e1, he⟩ := bd_v he
    cases v with
    | bl b0 =>
      obtain ⟨rfl, rfl⟩ := rt_v he
      exact PTs.w (pts_one pt_w) (ih C X m e i cs H O B σ ρ g g' b0 _ GO h r e1 q)
    | _ => cases he
  | [], some _, h => simp [ckIf] at h
  | [_], none, h => simp [ckIf] at h
  | _ :: _ :: _, _, h => simp [ckIf] at h
theorem comp_run (ih : SE W tb fs cf d ev) (iht : ST W tb fs cf d ev) {Bk : Cx → Prop} (hB : ∀ Y, Bk Y → Good W tb fs cf d C Y) {x : E} {t : T} {c : Option E} {elt tg : Expr} {ifs : List Expr} {vs : List Nat} {D : Addr} {J : L2.It} {A : Addr → Prop} {its ps0 ws : List PV} {Hs : Hp} {g0 : G} {Qd : Hp → Prop}
    (h1 : ckT C t tg = true) (h2 : ∀ i ∈ slotsT t, i ∈ vs) (h3 : ckIf (ckE tb fs m C) ifs c = true) (h4 : ckE tb fs m C elt x = true) (h5 : isPk x = false)
    (hO : O D) (hBD : B D) (hc : D ∉ cs) (r : RS W cs Hs O B σ ρ g0) (st : Stps W cs Hs O A J its) (hA : ∀ a, A a → a ∉ cs ∧ a ≠ D)
    (he : compGo ev (wipeE ρ vs) x t c g0 its = some (.v ws, g')) (ha : Acc W cs Hs O D ps0) (hz : ps0.length + ws.length ≤ LIM)
    (q : ∀ H', Keep (D :: cs) Hs H' → Acc W cs H' O D (ps0 ++ ws) → CellsOk W cs H' O g' → Qd H') :
    ∃ Wf : Nat → Nat → Hp → Prop, (∃ m, Wf 0 m Hs) ∧ ∀ i m H, Wf i m H →
      (J.stop i H ∧ Qd H) ∨ (J.go i H ∧ ∃ Nx : Hp → Prop, (∀ H', Nx H' → ∃ m', m' < m ∧ Wf (i + 1) m' H') ∧ ∀ x H', J.yld i H x H' → (∀ Y, Bk Y → gW Y tg x (wipe σ vs) H' fun σ2 H2 => wipe σ2 vs = wipe σ vs ∧ ∀ Y, Bk Y → ifW Y ifs σ2 H2 fun b H3 =>
        if b = true then ∀ Y, Bk Y → eW Y elt σ2 H3 fun y H4 => ∃ acc, H4 D = some (.lst acc) ∧ acc.length < sizeLine ∧ Nx (upd H4 D (.lst (acc ++ [y]))) else Nx H3)) := by
  obtain ⟨Gd, Yd, w, s1, s2⟩ := st.ex
  refine walk_loop w (Bd := fun x H' Nx => ∀ Y, Bk Y → gW Y tg x (wipe σ vs) H' fun σ2 H2 => wipe σ2 vs = wipe σ vs ∧ ∀ Y, Bk Y → ifW Y ifs σ2 H2 fun b H3 =>
        if b = true then ∀ Y, Bk Y → eW Y elt σ2 H3 fun y H4 => ∃ acc, H4 D = some (.lst acc) ∧ acc.length < sizeLine ∧ Nx (upd H4 D (.lst (acc ++ [y]))) else Nx H3)
    (fun i H => ∃ gi ps rest, Keep (D :: cs) Hs H ∧ CellsOk W cs H O gi ∧ Acc W cs H O D ps ∧ compGo ev (wipeE ρ vs) x t c gi (its.drop i) = some (.v rest, g') ∧ ps ++ rest = ps0 ++ ws)
    ⟨g0, ps0, ws, .refl _ _, r.cells, ha, by rw [List.drop_zero]; exact he, rfl⟩ (fun i H _ ⟨gi, ps, rest, k, _⟩ => s1 H fun a ha o e => k.at_ a o e fun z => by
      rcases List.mem_cons.mp z with z | z
      · exact (hA a ha).2 z
      · exact (hA a ha).1 z) ?_ (fun H ⟨gi, ps, rest, k, cc, a, e, e2⟩ => ?_)
  · intro i xv H H' hi ⟨gi, ps, rest, k, cc, ac, e, e2⟩ y Y hY
    obtain ⟨p, hp, hd⟩ := drop_at hi
    have hL : ∀ a ∈ D :: cs, O a ∧ (a ∈ cs ∨ B a) := fun a ha => by
      rcases List.mem_cons.mp ha with rfl | ha
      · exact ⟨hO, .inr hBD⟩
      · exact ⟨cc.sub a ha, .inl ha⟩
    have rH : RS W cs H O B σ ρ gi := r.keepL k hL cc
    have ex : Ext Hs O H O := ⟨fun a o e n => ⟨k.at_ a o e fun z => n (hL a z).1, n⟩⟩
    obtain ⟨rp, hH⟩ := s2 i p xv H H' cs O hp (.refl _) ex rH.dom y
    have kH : Keep cs H H' := by
      rcases hH with rfl | ⟨T, o, hT, rfl⟩
      · exact .refl _ _
      · exact Keep.new hT
    have cH : CellsOk W cs H' O gi := by
      rcases hH with rfl | ⟨T, o, hT, rfl⟩
      · exact cc
      · exact cc.new hT
    have rH' := rH.keep kH cH
    rw [hd] at e
    simp only [compGo] at e
    split at e
    · cases e
    · rename_i ρ' hb
      obtain ⟨b, g1, e3, e⟩ := bd_v e
      refine tgt_ok (hB Y hY) t h1 rp (rH'.wipe vs) hb fun σ2 r2 hw => ⟨by rw [hw vs h2, wipe_wipe fun _ h => h], fun Y hY => ?_⟩
      refine if_ok iht (hB Y hY) h3 r2 e3 fun H3 k3 c3 => ?_
      cases b with
      | false =>
        rw [if_neg (by decide)]
        exact ⟨g1, ps, rest, (k.trans (kH.more fun a h => List.mem_cons_of_mem _ h)).trans (k3.more fun a h => List.mem_cons_of_mem _ h), c3, by
          obtain ⟨xs, a1, a2⟩ := ac
          exact ⟨xs, k3.at_ _ _ (kH.at_ _ _ a1 hc) hc, k3.reps cH (kH.reps cc a2)⟩, e, e2⟩
      | true =>
        rw [if_pos rfl]
        obtain ⟨v, g2, e4, e⟩ := bd_v e
        obtain ⟨vs', g3, e5, e⟩ := bd_v e
        obtain ⟨rfl, rfl⟩ := rt_v e
        intro Y hY
        refine ih C Y m elt x cs H3 O B σ2 ρ' g1 g2 v _ (hB Y hY) h4 (r2.keep k3 c3) e4 fun y H4 k4 c4 a4 => ?_
        obtain ⟨xs, a1, a2⟩ := ac
        have l1 : xs.length = ps.length := a2.length
        have b1 : H4 D = some (.lst xs) := k4.at_ _ _ (k3.at_ _ _ (kH.at_ _ _ a1 hc) hc) hc
        have b2 : Reps W cs H4 O xs ps := k4.reps c3 (k3.reps cH (kH.reps cc a2))
        have hn : xs.length < LIM := by
          have := congrArg List.length e2
          simp only [List.length_append, List.length_cons] at this
          omega
        have x5 : Ext H4 O (upd H4 D (.lst (xs ++ [y]))) O := Ext.upd hO
        refine ⟨xs, b1, by rw [lim_eq]; exact hn, g2, ps ++ [v], vs', ?_, ?_, ⟨xs ++ [y], upd_same, ?_⟩, e5, ?_⟩
        · exact (((k.trans (kH.more fun a h => List.mem_cons_of_mem _ h)).trans (k3.more fun a h => List.mem_cons_of_mem _ h)).trans (k4.more fun a h => List.mem_cons_of_mem _ h)).trans .upd
        · exact c4.ext x5 (fun a ha o e => by rw [upd_ne fun z => hc (by rw [← z]; exact ha)]; exact e) c4.sub
        · exact (b2.append (.cons (a4.rep h5) .nil)).ext (.refl _) x5
        · rw [List.append_assoc]; exact e2
  · rw [List.drop_length] at e
    obtain ⟨rfl, rfl⟩ := rt_v (show rt [] gi = some (.v rest, g') from e)
    rw [List.append_nil] at e2
    rw [e2] at a
    exact q H k a cc
end
end Z
end

section
set_option Elab.async false
set_option linter.all false
set_option maxRecDepth 100000
set_option maxHeartbeats 2000000
/-! Z14: comprehensions, and all expressions. -/
namespace Z
open PySem L2
section
variable {W : Wd} {tb : Tab} {fs : List Fd} {cf : CF} {d : Nat} {ev : EV} {C : SC} {X : Cx} {m : Nat} {cs : List Addr} {H : Hp} {O B : Own} {σ : L2.St} {ρ : Env} {g g' : G} {Q : VK} {e : Expr} {pv : PV}
def BkOf (X : Cx) (scope : Scope) (Y : Cx) : Prop := ∃ (s : Shared) (H : Hp) (Ca : Addr) (cl : List (Str × Addr)) (fp : List Addr), Y = X.blk s H scope (compEnvC scope cl Ca X.env) fp
theorem bk_good (GO : Good W tb fs cf d C X) {scope : Scope} : ∀ Y, BkOf X scope Y → Good W tb fs cf d (inner C scope) Y := by
  rintro Y ⟨s, H, Ca, cl, fp, rfl⟩
  exact GO.blk s H Ca cl fp
theorem all_mem {l vs : List Nat} (h : l.all (fun i => vs.contains i) = true) : ∀ i ∈ l, i ∈ vs := by
  intro i hi
  rw [List.all_eq_true] at h
  simpa using h i hi
/-- the new list, done: what the comprehension's value is -/
theorem comp_done {D : Addr} {H1 H' : Hp} {ps : List PV} {ie : E} (q : PostE W fs cs H O g' ie (.lst ps) Q) (k1 : Keep cs H H1) (hD : H1 D = none) (dom : ∀ a, O a → ∃ o, H1 a = some o) (sub : ∀ a ∈ cs, O a)
    (k : Keep (D :: cs) (upd H1 D (.lst [])) H') (a : Acc W cs H' (fun a => O a ∨ a = D) D ps) (c : CellsOk W cs H' (fun a => O a ∨ a = D) g') (hz : ps.length ≤ LIM) : Q (.ref D) H' := by
  obtain ⟨xs, a1, a2⟩ := a
  have l : xs.length ≤ LIM := by rw [a2.length]; exact hz
  have less : Ext H' (fun a => O a ∨ a = D) H' O := Ext.less fun _ h => .inl h
  have k2 : Keep cs H1 H' := ⟨fun a o e n => k.at_ a o (by rw [upd_ne (ne_of_none e hD)]; exact e) fun z => by
      rcases List.mem_cons.mp z with z | z
      · exact ne_of_none e hD z
      · exact n z, fun a o e => k.dom a o (by rw [upd_ne (ne_of_none e hD)]; exact e)⟩
  have rp : Rep W cs H' O (.ref D) (.lst ps) := .lst a1 (own_new (o := .lst xs) dom hD) l (a2.ext (.refl _) less)
  exact q _ H' (k1.trans k2) (c.ext less (fun _ _ _ e => e) sub) ⟨.inl rp, fun _ => rp, fun _ => ⟨D, xs, rfl, k1.none hD, a1, l, a2⟩⟩
theorem new_at {D : Addr} {H1 : Hp} {g1 : G} (r : RS W cs H1 O B σ ρ g1) (hD : H1 D = none) : RS W cs (upd H1 D (.lst [])) (fun a => O a ∨ a = D) (fun a => B a ∨ a = D) σ ρ g1 :=
  r.grow (Keep.new hD) hD ⟨_, upd_same⟩ (r.cells.ext (Ext.fresh hD) (fun a _ o e => by rw [upd_ne (ne_of_none e hD)]; exact e) fun a h => .inl (r.cells.sub a h))
abbrev lcW (X : Cx) (elt tg iter : Expr) (ifs : List Expr) (scope : Scope) (own : List Nat) : TE := tLc (iW X tg iter) (fun v σ H Q => ∀ Y, BkOf X scope Y → gW Y tg v σ H Q) (fun σ H Q => ∀ Y, BkOf X scope Y → ifW Y ifs σ H Q) (fun σ H Q => ∀ Y, BkOf X scope Y → eW Y elt σ H Q) own
abbrev lc2W (X : Cx) (elt tg iter : Expr) (ifs : List Expr) (tg' iter' : Expr) (ifs' : List Expr) (scope : Scope) (own own' : List Nat) : TE := tLc2 (iW X tg iter) (fun v σ H Q => ∀ Y, BkOf X scope Y → gW Y tg v σ H Q) (fun σ H Q => ∀ Y, BkOf X scope Y → ifW Y ifs σ H Q)
  (fun σ H R => ∀ Y, BkOf X scope Y → iW Y tg' iter' σ H R) (fun v σ H Q => ∀ Y, BkOf X scope Y → gW Y tg' v σ H Q) (fun σ H Q => ∀ Y, BkOf X scope Y → ifW Y ifs' σ H Q) (fun σ H Q => ∀ Y, BkOf X scope Y → eW Y elt σ H Q) own own'
theorem se_comp0 {x : E} {t : T} {it : It} {c : Option E} {own : List Nat} (ih : SE W tb fs cf d ev) (iht : ST W tb fs cf d ev) (GO : Good W tb fs cf d C X) (r : RS W cs H O B σ ρ g) (h : ckE tb fs (m + 1) C e (.comp x t it c own) = true) (hb : isBop e = false) (he : evE1 tb cf ev ρ g (.comp x t it c own) = some (.v pv, g')) (q : PostE W fs cs H O g' (.comp x t it c own) pv Q) :
    ∃ elt tg iter ifs scope p, e = .ListComp elt [⟨tg, iter, ifs, 0⟩] scope p ∧ notSet iter = true ∧ BlkOk X.N X.env.scope scope (ownOf C.N own) ∧ lcW X elt tg iter ifs scope own σ H Q := by
  cases e with
  | ListComp elt gs scope p =>
    match gs, h with
    | [⟨tg, iter, ifs, as⟩], h =>
      simp only [ckE, Bool.and_eq_true] at h
      obtain ⟨⟨⟨⟨⟨⟨⟨⟨h0, h1⟩, h2⟩, h3⟩, h4⟩, h5⟩, h6⟩, h7⟩, h8⟩ := h
      have h0 := of_decide_eq_true h0
      subst h0
      obtain ⟨its, g1, e1, he⟩ := bd_v he
      obtain ⟨ws, g2, e2, he⟩ := bd_v (nx0_v he)
      obtain ⟨rfl, rfl⟩ := rt_v he
      have ok : BlkOk X.N X.env.scope scope (ownOf C.N own) := by rw [GO.N, GO.sc]; exact blk_of h2
      refine ⟨elt, tg, iter, ifs, scope, p, rfl, h3, ok, ?_⟩
      refine it_ok ih GO h1 r e1 fun J H1 A k1 c1 st n1 n2 n3 hz => ?_
      intro D hD
      have r1 := r.keep k1 c1
      have hDc : D ∉ cs := fun z => by
        obtain ⟨o, q⟩ := r1.dom D (c1.sub D z)
        rw [hD] at q; cases q
      have hAD : ∀ a, A a → a ∉ cs ∧ a ≠ D := fun a ha => ⟨n1 a ha, fun z => by
        obtain ⟨o, q⟩ := n2 a ha
        rw [z, hD] at q; cases q⟩
      exact comp_run ih iht (bk_good GO) h4 (all_mem h5) h6 h7 (by simpa using h8) (.inr rfl) (.inr rfl) hDc (new_at r1 hD)
        (st.ext (Ext.fresh hD) fun a ha o e => by rw [upd_ne (hAD a ha).2]; exact e) hAD e2 ⟨[], upd_same, .nil⟩
        (by have := compGo_len e2; simp only [List.length_nil]; omega)
        (fun H' k a c' => comp_done q k1 hD r1.dom c1.sub k a c' (by have := compGo_len e2; first | omega | (simp only [List.nil_append]; omega)))
    | [], h => simp [ckE] at h
    | _ :: _ :: _, h => simp [ckE] at h
  | BoolOp _ _ _ => cases hb
  | _ => simp [ckE] at h
theorem se_comp {x : E} {t : T} {it : It} {c : Option E} {own : List Nat} (ih : SE W tb fs cf d ev) (iht : ST W tb fs cf d ev) (GO : Good W tb fs cf d C X) (r : RS W cs H O B σ ρ g) (h : ckE tb fs (m + 1) C e (.comp x t it c own) = true) (hb : isBop e = false) (he : evE1 tb cf ev ρ g (.comp x t it c own) = some (.v pv, g')) (q : PostE W fs cs H O g' (.comp x t it c own) pv Q) : eW X e σ H Q := by
  obtain ⟨elt, tg, iter, ifs, scope, p, rfl, h3, ok, z⟩ := se_comp0 ih iht GO r h hb he q
  refine PE.w (pe_lc (wi := iW X tg iter) (g := fun v σ H Q => ∀ Y, BkOf X scope Y → gW Y tg v σ H Q) (tt := fun σ H Q => ∀ Y, BkOf X scope Y → ifW Y ifs σ H Q) (te := fun σ H Q => ∀ Y, BkOf X scope Y → eW Y elt σ H Q) GO.gx.calm (by rw [GO.N]; exact GO.nd) pi_w ok
        (fun s H Ca cl fp => ⟨fun pins s' σ H v u Q I r h => h _ ⟨s, _, Ca, cl, fp, rfl⟩ pins s' u I r⟩) (fun s H Ca cl fp => ⟨fun pins s' σ H Q I h => h _ ⟨s, _, Ca, cl, fp, rfl⟩ pins s' I⟩) (fun s H Ca cl fp => ⟨fun pins s' σ H Q I h => h _ ⟨s, _, Ca, cl, fp, rfl⟩ pins s' I⟩) (fold_of h3)) ?_
  rw [ownOf_snd]
  exact z
theorem se_comp20 {x : E} {t t' : T} {it it' : It} {c c' : Option E} {own own' : List Nat} (ih : SE W tb fs cf d ev) (iht : ST W tb fs cf d ev) (GO : Good W tb fs cf d C X) (r : RS W cs H O B σ ρ g) (h : ckE tb fs (m + 1) C e (.comp2 x t it c t' it' c' own own') = true) (hb : isBop e = false)
    (he : evE1 tb cf ev ρ g (.comp2 x t it c t' it' c' own own') = some (.v pv, g')) (q : PostE W fs cs H O g' (.comp2 x t it c t' it' c' own own') pv Q) :
    ∃ elt tg iter ifs tg' iter' ifs' scope p, e = .ListComp elt [⟨tg, iter, ifs, 0⟩, ⟨tg', iter', ifs', 0⟩] scope p ∧ notSet iter = true ∧ notSet iter' = true ∧ BlkOk X.N X.env.scope scope (ownOf C.N own) ∧ (∀ i ∈ own', i ∈ own) ∧ lc2W X elt tg iter ifs tg' iter' ifs' scope own own' σ H Q := by
  cases e with
  | ListComp elt gs scope p =>
    match gs, h with
    | [⟨tg, iter, ifs, as⟩, ⟨tg', iter', ifs', as'⟩], h =>
      simp only [ckE, Bool.and_eq_true] at h
      obtain ⟨⟨⟨⟨⟨⟨⟨⟨⟨⟨⟨⟨⟨⟨⟨⟨h0, h0'⟩, h1⟩, h2⟩, h3⟩, h4⟩, h5⟩, h6⟩, h7⟩, h8⟩, h9⟩, h10⟩, h11⟩, h12⟩, h13⟩, h14⟩, h15⟩ := h
      have h0 := of_decide_eq_true h0
      have h0' := of_decide_eq_true h0'
      subst h0 h0'
      obtain ⟨its, g1, e1, he⟩ := bd_v he
      obtain ⟨ws, g2, e2, he⟩ := bd_v (nx0_v he)
      split at he
      · rename_i hz
        obtain ⟨rfl, rfl⟩ := rt_v he
        have ok : BlkOk X.N X.env.scope scope (ownOf C.N own) := by rw [GO.N, GO.sc]; exact blk_of h2
        have hB := bk_good (scope := scope) GO
        refine ⟨elt, tg, iter, ifs, tg', iter', ifs', scope, p, rfl, h3, h8, ok, all_mem h11, ?_⟩
        refine it_ok ih GO h1 r e1 fun J H1 A k1 c1 st n1 n2 n3 _ => ?_
        intro D hD
        have r1 := r.keep k1 c1
        have hDc : D ∉ cs := fun z => by
          obtain ⟨o, q⟩ := r1.dom D (c1.sub D z)
          rw [hD] at q; cases q
        have hAD : ∀ a, A a → a ∉ cs ∧ a ≠ D := fun a ha => ⟨n1 a ha, fun z => by
          obtain ⟨o, q⟩ := n2 a ha
          rw [z, hD] at q; cases q⟩
        have rs := new_at r1 hD
        have st' := st.ext (Ext.fresh (o := .lst []) hD) fun a ha o e => by rw [upd_ne (hAD a ha).2]; exact e
        obtain ⟨Gd, Yd, w, s1, s2⟩ := st'.ex
        refine walk_loop w (Bd := fun x H' Nx => ∀ Y, BkOf X scope Y → gW Y tg x (wipe σ own) H' fun σ2 H2 => wipe σ2 own = wipe σ own ∧ ∀ Y, BkOf X scope Y → ifW Y ifs σ2 H2 fun b H3 =>
            if b = true then ∀ Y, BkOf X scope Y → iW Y tg' iter' σ2 H3 fun J1 H4 => ∃ W1 : Nat → Nat → Hp → Prop, (∃ m, W1 0 m H4) ∧ ∀ j k H, W1 j k H →
              (J1.stop j H ∧ Nx H) ∨ (J1.go j H ∧ ∃ Nx1 : Hp → Prop, (∀ H', Nx1 H' → ∃ k', k' < k ∧ W1 (j + 1) k' H') ∧ ∀ x H', J1.yld j H x H' → ∀ Y, BkOf X scope Y → gW Y tg' x (wipe σ2 own') H' fun σ3 H5 => wipe σ3 own' = wipe σ2 own' ∧ ∀ Y, BkOf X scope Y → ifW Y ifs' σ3 H5 fun b H6 =>
                if b = true then ∀ Y, BkOf X scope Y → eW Y elt σ3 H6 fun y H7 => ∃ acc, H7 D = some (.lst acc) ∧ acc.length < sizeLine ∧ Nx1 (upd H7 D (.lst (acc ++ [y]))) else Nx1 H6)
            else Nx H3)
          (fun i H => ∃ gi ps rest, Keep (D :: cs) (upd H1 D (.lst [])) H ∧ CellsOk W cs H (fun a => O a ∨ a = D) gi ∧ Acc W cs H (fun a => O a ∨ a = D) D ps ∧ compGo2 ev (wipeE ρ own) x t c t' it' c' own' gi (its.drop i) = some (.v rest, g') ∧ ps ++ rest = ws)
          ⟨g1, [], ws, .refl _ _, rs.cells, ⟨[], upd_same, .nil⟩, by rw [List.drop_zero]; exact e2, rfl⟩ (fun i H _ ⟨gi, ps, rest, k, _⟩ => s1 H fun a ha o e => k.at_ a o e fun z => by
            rcases List.mem_cons.mp z with z | z
            · exact (hAD a ha).2 z
            · exact (hAD a ha).1 z) ?_ (fun H ⟨gi, ps, rest, k, cc, a, e, e2⟩ => ?_)
        · intro i xv H H' hi ⟨gi, ps, rest, k, cc, ac, e, e2⟩ y Y hY
          obtain ⟨p, hp, hd⟩ := drop_at hi
          have hL : ∀ a ∈ D :: cs, (O a ∨ a = D) ∧ (a ∈ cs ∨ (B a ∨ a = D)) := fun a ha => by
            rcases List.mem_cons.mp ha with rfl | ha
            · exact ⟨.inr rfl, .inr (.inr rfl)⟩
            · exact ⟨cc.sub a ha, .inl ha⟩
          have rH := rs.keepL k hL cc
          have ex : Ext (upd H1 D (.lst [])) (fun a => O a ∨ a = D) H (fun a => O a ∨ a = D) := ⟨fun a o e n => ⟨k.at_ a o e fun z => n (hL a z).1, n⟩⟩
          obtain ⟨rp, hH⟩ := s2 i p xv H H' cs _ hp (.refl _) ex rH.dom y
          have kH : Keep cs H H' := by
            rcases hH with rfl | ⟨T, o, hT, rfl⟩
            · exact .refl _ _
            · exact Keep.new hT
          have cH : CellsOk W cs H' (fun a => O a ∨ a = D) gi := by
            rcases hH with rfl | ⟨T, o, hT, rfl⟩
            · exact cc
            · exact cc.new hT
          have rH' := rH.keep kH cH
          rw [hd] at e
          simp only [compGo2] at e
          split at e
          · cases e
          · rename_i ρ' hb
            obtain ⟨b, g1, e3, e⟩ := bd_v e
            refine tgt_ok (hB Y hY) t h4 rp (rH'.wipe own) hb fun σ2 r2 hw => ⟨by rw [hw own (all_mem h5), wipe_wipe fun _ h => h], fun Y hY => ?_⟩
            refine if_ok iht (hB Y hY) h6 r2 e3 fun H3 k3 c3 => ?_
            have ac3 : Acc W cs H3 (fun a => O a ∨ a = D) D ps := by
              obtain ⟨xs, a1, a2⟩ := ac
              exact ⟨xs, k3.at_ _ _ (kH.at_ _ _ a1 hDc) hDc, k3.reps cH (kH.reps cc a2)⟩
            have k03 : Keep (D :: cs) (upd H1 D (.lst [])) H3 := (k.trans (kH.more fun a h => List.mem_cons_of_mem _ h)).trans (k3.more fun a h => List.mem_cons_of_mem _ h)
            cases b with
            | false =>
              rw [if_neg (by decide)]
              exact ⟨g1, ps, rest, k03, c3, ac3, e, e2⟩
            | true =>
              rw [if_pos rfl]
              obtain ⟨its', g2, e4, e⟩ := bd_v e
              obtain ⟨vin, g3, e5, e⟩ := bd_v e
              obtain ⟨vrest, g4, e6, e⟩ := bd_v e
              obtain ⟨rfl, rfl⟩ := rt_v e
              intro Y hY
              refine it_ok ih (hB Y hY) h7 (r2.keep k3 c3) e4 fun J1 H4 A1 k4 c4 st4 n41 n42 n43 _ => ?_
              have ac4 : Acc W cs H4 (fun a => O a ∨ a = D) D ps := by
                obtain ⟨xs, a1, a2⟩ := ac3
                exact ⟨xs, k4.at_ _ _ a1 hDc, k4.reps c3 a2⟩
              have A1D : ∀ a, A1 a → a ∉ cs ∧ a ≠ D := fun a ha => ⟨n41 a ha, fun z => n43 (by simpa using h15) a ha (.inr z)⟩
              · refine comp_run ih iht hB h9 (all_mem h10) h12 h13 (by simpa using h14) (.inr rfl) (.inr rfl) hDc ((r2.keep k3 c3).keep k4 c4) st4 A1D e5 ac4 ?_ fun H' k' a' c' => ?_
                · have := congrArg List.length e2
                  simp only [List.length_append] at this
                  omega
                · refine ⟨g3, ps ++ vin, vrest, (k03.trans (k4.more fun a h => List.mem_cons_of_mem _ h)).trans k', c', a', e6, ?_⟩
                  rw [List.append_assoc]; exact e2
        · rw [List.drop_length] at e
          obtain ⟨rfl, rfl⟩ := rt_v (show rt [] gi = some (.v rest, g') from e)
          rw [List.append_nil] at e2
          subst e2
          exact comp_done q k1 hD r1.dom c1.sub k a cc hz
      · cases he
    | [], h => simp [ckE] at h
    | [_], h => simp [ckE] at h
    | _ :: _ :: _ :: _, h => simp [ckE] at h
  | BoolOp _ _ _ => cases hb
  | _ => simp [ckE] at h
theorem se_comp2 {x : E} {t t' : T} {it it' : It} {c c' : Option E} {own own' : List Nat} (ih : SE W tb fs cf d ev) (iht : ST W tb fs cf d ev) (GO : Good W tb fs cf d C X) (r : RS W cs H O B σ ρ g) (h : ckE tb fs (m + 1) C e (.comp2 x t it c t' it' c' own own') = true) (hb : isBop e = false)
    (he : evE1 tb cf ev ρ g (.comp2 x t it c t' it' c' own own') = some (.v pv, g')) (q : PostE W fs cs H O g' (.comp2 x t it c t' it' c' own own') pv Q) : eW X e σ H Q := by
  obtain ⟨elt, tg, iter, ifs, tg', iter', ifs', scope, p, rfl, h3, h8, ok, h11, z⟩ := se_comp20 ih iht GO r h hb he q
  refine PE.w (pe_lc2 (wi := iW X tg iter) (g := fun v σ H Q => ∀ Y, BkOf X scope Y → gW Y tg v σ H Q) (tt := fun σ H Q => ∀ Y, BkOf X scope Y → ifW Y ifs σ H Q) (wi1 := fun σ H R => ∀ Y, BkOf X scope Y → iW Y tg' iter' σ H R) (g1 := fun v σ H Q => ∀ Y, BkOf X scope Y → gW Y tg' v σ H Q)
          (tt1 := fun σ H Q => ∀ Y, BkOf X scope Y → ifW Y ifs' σ H Q) (te := fun σ H Q => ∀ Y, BkOf X scope Y → eW Y elt σ H Q) (vs1 := own') GO.gx.calm (by rw [GO.N]; exact GO.nd) pi_w ok (by rw [ownOf_snd]; exact h11)
          (fun s H Ca cl fp => ⟨fun pins s' σ H v u Q I r h => h _ ⟨s, _, Ca, cl, fp, rfl⟩ pins s' u I r⟩) (fun s H Ca cl fp => ⟨fun pins s' σ H Q I h => h _ ⟨s, _, Ca, cl, fp, rfl⟩ pins s' I⟩) (fun s H Ca cl fp => ⟨fun pins s' σ H Q I h => h _ ⟨s, _, Ca, cl, fp, rfl⟩ pins s' I⟩)
          (fun s H Ca cl fp => ⟨fun pins s' σ H v u Q I r h => h _ ⟨s, _, Ca, cl, fp, rfl⟩ pins s' u I r⟩) (fun s H Ca cl fp => ⟨fun pins s' σ H Q I h => h _ ⟨s, _, Ca, cl, fp, rfl⟩ pins s' I⟩) (fun s H Ca cl fp => ⟨fun pins s' σ H Q I h => h _ ⟨s, _, Ca, cl, fp, rfl⟩ pins s' I⟩)
          (fold_of h3) (fun env => fold_of h8)) ?_
  rw [ownOf_snd]
  exact z
end
end Z
end

section
set_option Elab.async false
set_option linter.all false
set_option maxRecDepth 100000
set_option maxHeartbeats 4000000
/-! Z15: all expressions. -/
namespace L2
open PySem PySem.Spec PyProof.Rows
section
variable {X : Cx} {c a b : Expr} {tA tB tC : TT} {pos : Pos}
theorem pt_ifZ (hc : PT X c tA) (ha : PT X a tB) (hb : PT X b tC) : PT X (.IfExp c a b pos) (fun σ H Q => tA σ H fun k H1 => if k = true then tB σ H1 Q else tC σ H1 Q) := by
  refine ⟨fun pins s σ H Q I h => ?_⟩
  refine isTrue_IfExp (thn (hc.run pins s σ H _ I h) fun d s1 ⟨H1, I1, q1⟩ => ?_)
  cases d with
  | true => exact ha.run pins s1 σ H1 Q I1 q1
  | false => exact hb.run pins s1 σ H1 Q I1 q1
end
end L2
namespace Z
open PySem L2
def plainT : Expr → Bool
  | .UnaryOp .Not _ _ => false
  | .BoolOp .. => false
  | .IfExp .. => false
  | .Compare .. => false
  | _ => true
theorem plainT_ok {e : Expr} (h : plainT e = true) (env : PySem.Env) : ∀ whole, isTrue e env whole = (do let v ← whole; standAt e.pos; holding [v] (truthy v)) := by
  intro whole
  cases e with
  | UnaryOp op _ _ => cases op <;> first | rfl | cases h
  | BoolOp _ _ _ => cases h
  | IfExp _ _ _ _ => cases h
  | Compare _ _ _ _ => cases h
  | _ => rfl
section
variable {W : Wd} {tb : Tab} {fs : List Fd} {cf : CF} {d : Nat} {ev : EV} {C : SC} {X : Cx} {m : Nat} {cs : List Addr} {H : Hp} {O B : Own} {σ : L2.St} {ρ : Env} {g g' : G} {Q : VK} {e : Expr} {pv : PV}
theorem bop_cases (h : isBop e = true) : ∃ op es p, e = .BoolOp op es p := by
  cases e <;> first | exact ⟨_, _, _, rfl⟩ | cases h
theorem ck_one {op : BoolOp} {a : Expr} {p : Pos} {ie : E} (h : ckE tb fs (m + 1) C (.BoolOp op [a] p) ie = true) : ckE tb fs m C a ie = true := by
  simpa only [ckE] using h
theorem ck_nil {op : BoolOp} {p : Pos} {ie : E} (h : ckE tb fs (m + 1) C (.BoolOp op [] p) ie = true) : False := by
  cases ie <;> simp [ckE] at h
theorem ck_two {op : BoolOp} {x y : Expr} {es : List Expr} {p : Pos} {ie : E} (h : ckE tb fs (m + 1) C (.BoolOp op (x :: y :: es) p) ie = true) : (∃ a b, ie = .and a b) ∨ ∃ a b, ie = .or a b := by
  cases ie <;> first | exact .inl ⟨_, _, rfl⟩ | exact .inr ⟨_, _, rfl⟩ | (simp [ckE] at h; done)
theorem sound_e (ih : SE W tb fs cf d ev) (iht : ST W tb fs cf d ev) : SE W tb fs cf d (evE1 tb cf ev) := by
  intro C X m
  induction m with
  | zero => intro e ie cs H O B σ ρ g g' pv Q _ h; simp [ckE] at h
  | succ m im =>
    intro e ie cs H O B σ ρ g g' pv Q GO h r he q
    cases hb : isBop e with
    | true =>
      obtain ⟨op, es, p, rfl⟩ := bop_cases hb
      match es, h with
      | [], h => exact (ck_nil h).elim
      | [a], h => exact PE.w (pe_one pe_w) (im a ie cs H O B σ ρ g g' pv Q GO (ck_one h) r he q)
      | x :: y :: es, h =>
        rcases ck_two h with ⟨a, b, rfl⟩ | ⟨a, b, rfl⟩
        · exact se_and ih GO r h he q
        · exact se_or ih GO r h he q
    | false =>
      cases ie with
      | var i => exact se_var GO r h hb he q
      | pk i => exact se_pk GO r h hb he q
      | cst c => exact se_cst r h hb he q
      | gv k => exact se_gv GO r h hb he q
      | bin o a b => exact se_bin ih GO r h hb he q
      | neg a => exact se_neg ih GO r h hb he q
      | not a => exact se_not ih GO r h hb he q
      | and a b => cases e <;> first | (cases hb; done) | (simp [ckE] at h; done)
      | or a b => cases e <;> first | (cases hb; done) | (simp [ckE] at h; done)
      | cmp o a b =>
        obtain ⟨l, l2, p, rfl, hm, z⟩ := se_cmp ih GO r h hb he q
        exact PE.w (pe_cmpR (rW_op X _) pe_w pe_w hm) z
      | isN a =>
        obtain ⟨l, j, pj, p, rfl, z⟩ := se_isN ih GO r h hb he q
        exact PE.w (pe_cmp (pc_isN pe_w) rfl) z
      | isNN a =>
        obtain ⟨l, j, pj, p, rfl, z⟩ := se_isNN ih GO r h hb he q
        exact PE.w (pe_cmp (pc_notN pe_w) rfl) z
      | chain o o' a b c =>
        obtain ⟨l, l2, l3, p, rfl, hm, z⟩ := se_chain ih GO r h hb he q
        exact PE.w (pe_chain (rW_op X _) (rW_op X _) pe_w pe_w pe_w hm) z
      | ite c a b => exact se_ite ih iht GO r h hb he q
      | call f l => exact se_call ih GO r h hb he q
      | callv i l => exact se_callv ih GO r h hb he q
      | gf k => exact se_gf GO r h hb he q
      | bi b a => exact se_bi ih GO r h hb he q
      | isi t a => exact se_isi ih GO r h hb he q
      | mt k a b => exact se_mt ih GO r h hb he q
      | idx a i => exact se_idx ih GO r h hb he q
      | sl a lo hi => exact se_sl ih GO r h hb he q
      | rev a => exact se_rev ih GO r h hb he q
      | tup l => exact se_tup ih GO r h hb he q
      | lst l => exact se_lst ih GO r h hb he q
      | comp x t it c own => exact se_comp ih iht GO r h hb he q
      | comp2 x t it c t' it' c' own own' => exact se_comp2 ih iht GO r h hb he q
theorem q_test {ie : E} {b : Bool} {Q : Bool → Hp → Prop} (q : ∀ H', Keep cs H H' → CellsOk W cs H' O g' → Q b H') : PostE W fs cs H O g' ie (.bl b) (fun x H1 => ∃ c, x = .bl c ∧ Q c H1) :=
  fun z H1 k c a => ⟨b, a.r2.one.bl, q H1 k c⟩
theorem sound_t (ih : SE W tb fs cf d ev) (iht : ST W tb fs cf d ev) (ihw : SW W tb fs cf d ev) : ST W tb fs cf d (evE1 tb cf ev) ∧ SW W tb fs cf d (evE1 tb cf ev) := by
  have is := sound_e ih iht
  suffices all : ∀ (m : Nat) (C : SC) (X : Cx) (e : Expr) (ie : E) (cs : List Addr) (H : Hp) (O B : Own) (σ : L2.St) (ρ : Env) (g g' : G) (b : Bool) (Q : Bool → Hp → Prop),
      Good W tb fs cf d C X → ckE tb fs m C e ie = true → RS W cs H O B σ ρ g → evE1 tb cf ev ρ g ie = some (.v (.bl b), g') → (∀ H', Keep cs H H' → CellsOk W cs H' O g' → Q b H') → tW X e σ H Q ∧ (isBop e = true → wW X e σ H Q) from
    ⟨fun C X m e ie cs H O B σ ρ g g' b Q a1 a2 a3 a4 a5 => (all m C X e ie cs H O B σ ρ g g' b Q a1 a2 a3 a4 a5).1, fun C X m e ie cs H O B σ ρ g g' b Q hb a1 a2 a3 a4 a5 => (all m C X e ie cs H O B σ ρ g g' b Q a1 a2 a3 a4 a5).2 hb⟩
  intro m
  induction m with
  | zero => intro C X e ie cs H O B σ ρ g g' pv Q _ h; simp [ckE] at h
  | succ m im =>
    intro C X e ie cs H O B σ ρ g g' b Q GO h r he q
    cases hb : isBop e with
    | true =>
      suffices hw : wW X e σ H Q from ⟨fun pins s I => hw _ pins s I, fun _ => hw⟩
      obtain ⟨op, es, p, rfl⟩ := bop_cases hb
      match es, h with
      | [], h => exact (ck_nil h).elim
      | [a], h =>
        have z := (im C X a ie cs H O B σ ρ g g' b Q GO (ck_one h) r he q).1
        cases op with
        | And => exact PW.w (pw_and1 pt_w) z
        | Or => exact PW.w (pw_or1 pt_w) z
      | x :: y :: es, h =>
        rcases ck_two h with ⟨a, b', rfl⟩ | ⟨a, b', rfl⟩
        · simp only [ckE, Bool.and_eq_true] at h
          obtain ⟨⟨⟨⟨h0, h1⟩, h2⟩, h3⟩, h4⟩ := h
          have h0 := of_decide_eq_true h0
          subst h0
          obtain ⟨v, g1, e1, he⟩ := bd_v he
          cases v with
          | bl c =>
            refine PW.w (pw_and pt_w pw_w) (iht C X m x a cs H O B σ ρ g g1 c _ GO h1 r e1 fun H1 k1 c1 => ?_)
            cases c with
            | true =>
              rw [if_pos rfl]
              exact ihw C X m _ b' cs H1 O B σ ρ g1 g' b _ rfl GO h2 (r.keep k1 c1) he fun H2 k2 c2 => q H2 (k1.trans k2) c2
            | false =>
              obtain ⟨hbb, rfl⟩ := rt_v he
              cases hbb
              rw [if_neg (by decide)]
              exact q H1 k1 c1
          | _ => cases he
        · simp only [ckE, Bool.and_eq_true] at h
          obtain ⟨⟨⟨⟨h0, h1⟩, h2⟩, h3⟩, h4⟩ := h
          have h0 := of_decide_eq_true h0
          subst h0
          obtain ⟨v, g1, e1, he⟩ := bd_v he
          cases v with
          | bl c =>
            refine PW.w (pw_or pt_w pw_w) (iht C X m x a cs H O B σ ρ g g1 c _ GO h1 r e1 fun H1 k1 c1 => ?_)
            cases c with
            | false =>
              rw [if_neg (by decide)]
              exact ihw C X m _ b' cs H1 O B σ ρ g1 g' b _ rfl GO h2 (r.keep k1 c1) he fun H2 k2 c2 => q H2 (k1.trans k2) c2
            | true =>
              obtain ⟨hbb, rfl⟩ := rt_v he
              cases hbb
              rw [if_pos rfl]
              exact q H1 k1 c1
          | _ => cases he
    | false =>
      refine ⟨?_, fun z => by cases z⟩
      have gen : plainT e = true → tW X e σ H Q := fun hp => tW_of (plainT_ok hp X.env) (is C X (m + 1) e ie cs H O B σ ρ g g' (.bl b) _ GO h r he (q_test q))
      cases ie with
      | not a =>
        cases e with
        | UnaryOp op l p =>
          simp only [ckE, Bool.and_eq_true] at h
          obtain ⟨⟨h0, h1⟩, h2⟩ := h
          have h0 := of_decide_eq_true h0
          subst h0
          obtain ⟨v, g1, e1, he⟩ := bd_v he
          cases v with
          | bl i =>
            obtain ⟨hbb, rfl⟩ := rt_v he
            cases hbb
            exact PT.w (pt_not pt_w) (iht C X m l a cs H O B σ ρ g g' i _ GO h1 r e1 q)
          | _ => cases he
        | BoolOp _ _ _ => cases hb
        | _ => simp [ckE] at h
      | cmp o a b' =>
        obtain ⟨l, l2, p, rfl, hm, z⟩ := se_cmp ih GO r h hb he (q_test q)
        exact PT.w (pt_cmpR (rW_op X _) pe_w pe_w hm) z
      | isN a =>
        obtain ⟨l, j, pj, p, rfl, z⟩ := se_isN ih GO r h hb he (q_test q)
        exact PT.w (pt_cmp (pc_isN pe_w) rfl) z
      | isNN a =>
        obtain ⟨l, j, pj, p, rfl, z⟩ := se_isNN ih GO r h hb he (q_test q)
        exact PT.w (pt_cmp (pc_notN pe_w) rfl) z
      | chain o o' a b' c =>
        obtain ⟨l, l2, l3, p, rfl, hm, z⟩ := se_chain ih GO r h hb he (q_test q)
        exact PT.w (pt_chain (rW_op X _) (rW_op X _) pe_w pe_w pe_w hm) z
      | ite c a b' =>
        cases e with
        | IfExp t x y p =>
          simp only [ckE, Bool.and_eq_true] at h
          obtain ⟨⟨⟨⟨h0, h1⟩, h2⟩, h3⟩, h4⟩ := h
          obtain ⟨k, g1, e1, he⟩ := bd_v he
          obtain ⟨w, g2, e1, e2⟩ := bd_v e1
          cases w with
          | bl b0 =>
            obtain ⟨rfl, rfl⟩ := rt_v e2
            refine PT.w (pt_ifZ pt_w pt_w pt_w) (iht C X m t c cs H O B σ ρ g g1 b0 _ GO h0 r e1 fun H1 k1 c1 => ?_)
            cases b0 with
            | true =>
              rw [if_pos rfl]
              exact iht C X m _ a cs H1 O B σ ρ g1 g' b _ GO h1 (r.keep k1 c1) he fun H2 k2 c2 => q H2 (k1.trans k2) c2
            | false =>
              rw [if_neg (by decide)]
              exact iht C X m _ b' cs H1 O B σ ρ g1 g' b _ GO h2 (r.keep k1 c1) he fun H2 k2 c2 => q H2 (k1.trans k2) c2
          | _ => cases e2
        | BoolOp _ _ _ => cases hb
        | _ => simp [ckE] at h
      | neg a =>
        obtain ⟨v, g1, e1, he⟩ := bd_v he
        cases v <;> first | cases he | (obtain ⟨hbb, _⟩ := rt_v he; cases hbb)
      | and a b' => cases e <;> first | (cases hb; done) | (simp [ckE] at h; done)
      | or a b' => cases e <;> first | (cases hb; done) | (simp [ckE] at h; done)
      | _ => exact gen (by cases e <;> first | rfl | (cases hb; done) | (simp [ckE] at h; done))
theorem sound_n : ∀ n, SE W tb fs cf d (Z.ev tb cf n).e ∧ ST W tb fs cf d (Z.ev tb cf n).e ∧ SW W tb fs cf d (Z.ev tb cf n).e
  | 0 => by
    refine ⟨?_, ?_, ?_⟩
    · intro _ _ _ _ _ _ _ _ _ _ _ _ _ _ _ _ _ _ h
      cases h
    · intro _ _ _ _ _ _ _ _ _ _ _ _ _ _ _ _ _ _ h
      cases h
    · intro _ _ _ _ _ _ _ _ _ _ _ _ _ _ _ _ _ _ _ h
      cases h
  | n + 1 => by
    obtain ⟨a, b, c⟩ := sound_n n
    exact ⟨sound_e a b, (sound_t a b c).1, (sound_t a b c).2⟩
end
end Z
end

section
set_option Elab.async false
set_option linter.all false
set_option maxRecDepth 100000
set_option maxHeartbeats 1000000
/-! Z16: states through statements. -/
namespace Z
open PySem L2
/-- what stands since the def's entry: cs0, H0 the cells and the heap there, B whose owners are of outside -/
structure EI (W : Wd) (cs0 : List Addr) (H0 : Hp) (B : Own) (cs : List Addr) (H : Hp) (O : Own) (g : G) : Prop where
  cells : CellsOk W cs H O g
  bo : ∀ a, B a → O a
  dom : ∀ a, O a → ∃ o, H a = some o
  nw : ∀ a, O a → B a ∨ H0 a = none
  nc : ∀ a ∈ cs, a ∈ cs0 ∨ (¬ B a ∧ H0 a = none)
  kb : ∀ a, B a → a ∉ cs0 → ∀ o, H0 a = some o → H a = some o
  ex : ∀ a o, H0 a = some o → ¬ B a → H a = some o
  dm : ∀ a o, H0 a = some o → ∃ o', H a = some o'
  pre : Pre cs0 cs
  c0 : ∀ a ∈ cs0, B a
section
variable {W : Wd} {cs cs0 : List Addr} {H H' H0 : Hp} {O O' B : Own} {σ : L2.St} {ρ : Env} {g g' : G}
theorem flat_reps {cs' : List Addr} : ∀ {xs : List V} {l : List PV}, Reps W cs H O xs l → l.all flatP = true → Reps W cs' H' O' xs l
  | _, _, .nil, _ => .nil
  | _, _, .cons h t, f => by
    rw [List.all_cons, Bool.and_eq_true] at f
    refine .cons ?_ (flat_reps t f.2)
    cases h <;> first | exact .non | exact .bl _ | exact .int _ | exact .str _ | (exact absurd f.1 (by simp [flatP]))
theorem CellsOk.any (c : CellsOk W cs H O g) (s : ∀ a ∈ cs, O' a) : CellsOk W cs H O' g := by
  refine ⟨c.len, c.nd, s, fun k a p h1 h2 => ?_, c.fl⟩
  have h := c.con k a p h1 h2
  have f := c.fl k p h2
  cases p with
  | lst l =>
    obtain ⟨xs, e1, e2, e3⟩ := h
    exact ⟨xs, e1, e2, flat_reps e3 f⟩
  | _ => exact h
theorem EI.keep (x : EI W cs0 H0 B cs H O g) (k : Keep cs H H') (c : CellsOk W cs H' O g') : EI W cs0 H0 B cs H' O g' where
  cells := c
  bo := x.bo
  dom := fun a h => by
    obtain ⟨o, e⟩ := x.dom a h
    exact k.dom a o e
  nw := x.nw
  nc := x.nc
  kb := fun a hb hc o e => k.at_ a o (x.kb a hb hc o e) fun z => (x.nc a z).elim hc fun z => z.1 hb
  ex := fun a o e hb => k.at_ a o (x.ex a o e hb) fun z => (x.nc a z).elim (fun z => hb (x.c0 a z)) fun z => by rw [z.2] at e; cases e
  dm := fun a o e => by
    obtain ⟨o1, e1⟩ := x.dm a o e
    exact k.dom a o1 e1
  pre := x.pre
  c0 := x.c0
theorem EI.grow {D : Addr} (x : EI W cs0 H0 B cs H O g) (k : Keep cs H H') (hD : H D = none) (hd : ∃ o, H' D = some o) (c : CellsOk W cs H' (fun a => O a ∨ a = D) g') : EI W cs0 H0 B cs H' (fun a => O a ∨ a = D) g' := by
  have y := x.keep k (g' := g') (c.any x.cells.sub)
  refine ⟨c, fun a h => .inl (y.bo a h), fun a h => ?_, fun a h => ?_, y.nc, y.kb, y.ex, y.dm, y.pre, y.c0⟩
  · rcases h with h | h
    · exact y.dom a h
    · rw [h]; exact hd
  · rcases h with h | h
    · exact y.nw a h
    · refine .inr ?_
      cases e : H0 a with
      | none => rfl
      | some o =>
        obtain ⟨o', e'⟩ := x.dm a o e
        rw [h, hD] at e'; cases e'
/-- the heap changes at an address that is owned here, or a cell -/
theorem EI.upd {a : Addr} {o o' : HO} (x : EI W cs0 H0 B cs H O g) (ha : H a = some o) (h : ¬ B a ∨ a ∈ cs) (hO : O a) (c : CellsOk W cs (upd H a o') O g') : EI W cs0 H0 B cs (upd H a o') O g' where
  cells := c
  bo := x.bo
  dom := fun b h => by
    by_cases e : b = a
    · subst e; exact ⟨o', upd_same⟩
    · rw [upd_ne e]; exact x.dom b h
  nw := x.nw
  nc := x.nc
  kb := fun b hb hc u e => by
    have ne : b ≠ a := fun z => by
      subst z
      rcases h with h | h
      · exact h hb
      · exact (x.nc b h).elim hc fun z => z.1 hb
    rw [upd_ne ne]; exact x.kb b hb hc u e
  ex := fun b u e hb => by
    have ne : b ≠ a := fun z => by
      subst z
      exact (x.nw b hO).elim hb fun z => by rw [z] at e; cases e
    rw [upd_ne ne]; exact x.ex b u e hb
  dm := fun b u e => by
    by_cases z : b = a
    · subst z; exact ⟨o', upd_same⟩
    · rw [upd_ne z]; exact x.dm b u e
  pre := x.pre
  c0 := x.c0
/-- an owner less -/
theorem EI.drop {a : Addr} (x : EI W cs0 H0 B cs H O g) (hB : ¬ B a) (hc : a ∉ cs) : EI W cs0 H0 B cs H (fun b => O b ∧ b ≠ a) g where
  cells := x.cells.any fun b h => ⟨x.cells.sub b h, fun z => hc (by rw [← z]; exact h)⟩
  bo := fun b h => ⟨x.bo b h, fun z => hB (by rw [← z]; exact h)⟩
  dom := fun b h => x.dom b h.1
  nw := fun b h => x.nw b h.1
  nc := x.nc
  kb := x.kb
  ex := x.ex
  dm := x.dm
  pre := x.pre
  c0 := x.c0
/-- an own list becomes a cell -/
theorem EI.cell {a : Addr} {l : List PV} (x : EI W cs0 H0 B cs H O g) (hO : O a) (hB : ¬ B a) (hc : a ∉ cs) (h : OwnAt W cs H O a (.lst l)) (f : flatC (.lst l) = true) : EI W cs0 H0 B (cs ++ [a]) H O (g ++ [.lst l]) where
  cells := by
    have pr : Pre cs (cs ++ [a]) := fun k b e => by
      rw [List.getElem?_append_left (List.getElem?_eq_some_iff.mp e).1]; exact e
    refine ⟨by rw [List.length_append, List.length_append, x.cells.len]; rfl, ?_, fun b hb => ?_, fun k b p h1 h2 => ?_, fun k p h2 => ?_⟩
    · rw [List.nodup_append]
      refine ⟨x.cells.nd, by simp, fun u hu v hv z => ?_⟩
      rw [List.mem_singleton.mp hv] at z
      exact hc (by rw [← z]; exact hu)
    · rcases List.mem_append.mp hb with hb | hb
      · exact x.cells.sub b hb
      · rw [List.mem_singleton.mp hb]; exact hO
    · by_cases hk : k < cs.length
      · rw [List.getElem?_append_left hk] at h1
        rw [List.getElem?_append_left (by rw [← x.cells.len]; exact hk)] at h2
        exact (x.cells.con k b p h1 h2).ext pr (.refl _ _) fun _ e => e
      · have hlt := (List.getElem?_eq_some_iff.mp h1).1
        rw [List.length_append] at hlt
        have ek : k = cs.length := by
          have : [a].length = 1 := rfl
          omega
        subst ek
        rw [List.getElem?_append_right (Nat.le_refl _), Nat.sub_self] at h1
        rw [x.cells.len, List.getElem?_append_right (Nat.le_refl _), Nat.sub_self] at h2
        cases (show some a = some b from h1)
        cases (show some (PV.lst l) = some p from h2)
        exact h.ext pr (.refl _ _) fun _ e => e
    · by_cases hk : k < g.length
      · rw [List.getElem?_append_left hk] at h2
        exact x.cells.fl k p h2
      · have hlt := (List.getElem?_eq_some_iff.mp h2).1
        rw [List.length_append] at hlt
        have ek : k = g.length := by
          have : [PV.lst l].length = 1 := rfl
          omega
        subst ek
        rw [List.getElem?_append_right (Nat.le_refl _), Nat.sub_self] at h2
        cases (show some (PV.lst l) = some p from h2)
        exact f
  bo := x.bo
  dom := x.dom
  nw := x.nw
  nc := fun b hb => by
    rcases List.mem_append.mp hb with hb | hb
    · exact x.nc b hb
    · rw [List.mem_singleton.mp hb]
      exact .inr ⟨hB, (x.nw a hO).resolve_left hB⟩
  kb := x.kb
  ex := x.ex
  dm := x.dm
  pre := x.pre.trans fun k b e => by
    rw [List.getElem?_append_left (List.getElem?_eq_some_iff.mp e).1]; exact e
  c0 := x.c0
/-! ### slots -/
theorem RS.lessB {B' : Own} (r : RS W cs H O B σ ρ g) (h : ∀ a, B' a → B a) : RS W cs H O B' σ ρ g where
  len := r.len
  at_ := fun i s hs => by
    have q := r.at_ i s hs
    cases s with
    | own p => obtain ⟨a, e, h1, h2, h3⟩ := q; exact ⟨a, e, h1, fun z => h2 (h a z), h3⟩
    | _ => exact q
  dis := r.dis
  cells := r.cells
  dom := r.dom
  bo := fun a z => r.bo a (h a z)
/-- owners of outside, and those that wait -/
def Bp (B : Own) (ps : List Addr) : Own := fun a => B a ∨ a ∈ ps
theorem RS.putOwn {D : Addr} {ps : List Addr} {i : Nat} {p : PV} (r : RS W cs H O (Bp B (D :: ps)) σ ρ g) (hi : i < ρ.length) (hB : ¬ B D) (hp : D ∉ ps) (hc : D ∉ cs) (h : OwnAt W cs H O D p) : RS W cs H O (Bp B ps) (σ.set i (some (.ref D))) (ρ.set i (.own p)) g where
  len := by rw [List.length_set, List.length_set]; exact r.len
  at_ := fun j s e => by
    by_cases hj : i = j
    · subst hj
      rw [List.getElem?_set_self hi] at e
      cases e
      rw [List.getElem?_set_self (by rw [r.len]; exact hi)]
      exact ⟨D, rfl, r.bo D (.inr List.mem_cons_self), fun z => z.elim hB hp, hc, h⟩
    · rw [List.getElem?_set_ne hj] at e
      rw [List.getElem?_set_ne hj]
      have q := r.at_ j s e
      cases s with
      | own p => obtain ⟨a, e, h1, h2, h3⟩ := q; exact ⟨a, e, h1, fun z => h2 (z.elim .inl fun z => .inr (List.mem_cons_of_mem _ z)), h3⟩
      | _ => exact q
  dis := fun j k q q' a hjk h1 h2 h3 h4 => by
    have other : ∀ (j : Nat) (q : PV), ρ[j]? = some (.own q) → σ[j]? ≠ some (some (V.ref D)) := fun j q e z => by
      obtain ⟨b, e1, _, n, _⟩ := r.at_ j _ e
      rw [z] at e1
      cases e1
      exact n (.inr List.mem_cons_self)
    by_cases hj : i = j
    · subst hj
      rw [List.getElem?_set_ne hjk] at h2 h4
      rw [List.getElem?_set_self (by rw [r.len]; exact hi)] at h3
      cases h3
      exact other k q' h2 h4
    · by_cases hk : i = k
      · subst hk
        rw [List.getElem?_set_ne hj] at h1 h3
        rw [List.getElem?_set_self (by rw [r.len]; exact hi)] at h4
        cases h4
        exact other j q h1 h3
      · rw [List.getElem?_set_ne hj] at h1 h3
        rw [List.getElem?_set_ne hk] at h2 h4
        exact r.dis j k q q' a hjk h1 h2 h3 h4
  cells := r.cells
  dom := r.dom
  bo := fun a z => r.bo a (z.elim .inl fun z => .inr (List.mem_cons_of_mem _ z))
/-- one's own list changes -/
theorem RS.modOwn {i : Nat} {a : Addr} {p : PV} {xs' : List V} {l' : List PV} (r : RS W cs H O B σ ρ g) (hρ : ρ[i]? = some (.own p)) (hσ : σ[i]? = some (some (.ref a))) (hO : O a) (hB : ¬ B a) (hc : a ∉ cs) (hz : xs'.length ≤ LIM) (hr : Reps W cs H O xs' l') :
    RS W cs (upd H a (.lst xs')) O B σ (ρ.set i (.own (.lst l'))) g := by
  have x : Ext H O (upd H a (.lst xs')) O := Ext.upd hO
  have hi := (List.getElem?_eq_some_iff.mp hρ).1
  refine ⟨by rw [List.length_set]; exact r.len, fun j s e => ?_, fun j k q q' b hjk h1 h2 h3 h4 => ?_, r.cells.ext x (fun b hb o e => by rw [upd_ne fun z => hc (by rw [← z]; exact hb)]; exact e) r.cells.sub, fun b hb => ?_, r.bo⟩
  · by_cases hj : i = j
    · subst hj
      rw [List.getElem?_set_self hi] at e
      cases e
      exact ⟨a, hσ, hO, hB, hc, xs', upd_same, hz, hr.ext (.refl _) x⟩
    · rw [List.getElem?_set_ne hj] at e
      have q := r.at_ j s e
      cases s with
      | no => trivial
      | val p => obtain ⟨v, e1, q⟩ := q; exact ⟨v, e1, q.ext (.refl _) x⟩
      | own p2 =>
        obtain ⟨b, e1, q1, q2, q3, q4⟩ := q
        refine ⟨b, e1, q1, q2, q3, q4.ext (.refl _) x fun o e2 => ?_⟩
        have ne : b ≠ a := fun z => by
          subst z
          exact r.dis i j p p2 b hj hρ e hσ e1
        rw [upd_ne ne]; exact e2
  · have back : ∀ (j : Nat) (q : PV), (ρ.set i (.own (.lst l')))[j]? = some (.own q) → ∃ q0, ρ[j]? = some (.own q0) := fun j q e => by
      by_cases hj : i = j
      · subst hj; exact ⟨p, hρ⟩
      · rw [List.getElem?_set_ne hj] at e; exact ⟨q, e⟩
    obtain ⟨q1, h1⟩ := back j q h1
    obtain ⟨q2, h2⟩ := back k q' h2
    exact r.dis j k q1 q2 b hjk h1 h2 h3 h4
  · by_cases e : b = a
    · subst e; exact ⟨_, upd_same⟩
    · rw [upd_ne e]; exact r.dom b hb
/-- a cell changes -/
theorem CellsOk.mod {k : Nat} {a : Addr} {xs' : List V} {l' : List PV} (c : CellsOk W cs H O g) (hk : cs[k]? = some a) (hz : xs'.length ≤ LIM) (hr : Reps W cs H O xs' l') (f : flatC (.lst l') = true) : CellsOk W cs (upd H a (.lst xs')) O (g.set k (.lst l')) := by
  have ha : a ∈ cs := List.mem_of_getElem? hk
  have x : Ext H O (upd H a (.lst xs')) O := Ext.upd (c.sub a ha)
  refine ⟨by rw [List.length_set]; exact c.len, c.nd, c.sub, fun j b p h1 h2 => ?_, fun j p h2 => ?_⟩
  · by_cases e : k = j
    · subst e
      rw [hk] at h1
      cases h1
      rw [List.getElem?_set_self (by rw [← c.len]; exact (List.getElem?_eq_some_iff.mp hk).1)] at h2
      cases h2
      exact ⟨xs', upd_same, hz, hr.ext (.refl _) x⟩
    · rw [List.getElem?_set_ne e] at h2
      refine (c.con j b p h1 h2).ext (.refl _) x fun o e2 => ?_
      have ne : b ≠ a := fun z => by
        subst z
        obtain ⟨l1, e1⟩ := List.getElem?_eq_some_iff.mp hk
        obtain ⟨l2, e2⟩ := List.getElem?_eq_some_iff.mp h1
        exact e ((List.getElem_inj c.nd).mp (e1.trans e2.symm))
      rw [upd_ne ne]; exact e2
  · by_cases e : k = j
    · subst e
      by_cases hl : k < g.length
      · rw [List.getElem?_set_self hl] at h2
        cases h2; exact f
      · rw [List.getElem?_eq_none (by rw [List.length_set]; omega)] at h2; cases h2
    · rw [List.getElem?_set_ne e] at h2
      exact c.fl j p h2
theorem RS.modCell {k : Nat} {a : Addr} {xs' : List V} {l' : List PV} (r : RS W cs H O B σ ρ g) (hk : cs[k]? = some a) (hz : xs'.length ≤ LIM) (hr : Reps W cs H O xs' l') (f : flatC (.lst l') = true) : RS W cs (upd H a (.lst xs')) O B σ ρ (g.set k (.lst l')) := by
  have ha : a ∈ cs := List.mem_of_getElem? hk
  have hO := r.cells.sub a ha
  have hd := r.dom a hO
  refine r.keep ⟨fun b o e n => ?_, fun b o e => ?_⟩ (r.cells.mod hk hz hr f)
  · rw [upd_ne fun z => n (by rw [z]; exact ha)]; exact e
  · by_cases z : b = a
    · subst z; exact ⟨_, upd_same⟩
    · exact ⟨o, by rw [upd_ne z]; exact e⟩
/-- an own list is frozen -/
theorem RS.freeze {i : Nat} {a : Addr} {p : PV} (r : RS W cs H O B σ ρ g) (hρ : ρ[i]? = some (.own p)) (hσ : σ[i]? = some (some (.ref a))) (hO : O a) (hB : ¬ B a) (hc : a ∉ cs) (h : OwnAt W cs H O a p) :
    RS W cs H (fun b => O b ∧ b ≠ a) B σ (ρ.set i (.val p)) g := by
  have x : Ext H O H (fun b => O b ∧ b ≠ a) := Ext.less fun _ h => h.1
  have hi := (List.getElem?_eq_some_iff.mp hρ).1
  refine ⟨by rw [List.length_set]; exact r.len, fun j s e => ?_, fun j k q q' b hjk h1 h2 h3 h4 => ?_, r.cells.any fun b hb => ⟨r.cells.sub b hb, fun z => hc (by rw [← z]; exact hb)⟩, fun b hb => r.dom b hb.1, fun b hb => ⟨r.bo b hb, fun z => hB (by rw [← z]; exact hb)⟩⟩
  · by_cases hj : i = j
    · subst hj
      rw [List.getElem?_set_self hi] at e
      cases e
      refine ⟨_, hσ, ?_⟩
      cases p with
      | lst l =>
        obtain ⟨xs, e1, e2, e3⟩ := h
        exact .lst e1 (fun z => z.2 rfl) e2 (e3.ext (.refl _) x)
      | _ => exact h.elim
    · rw [List.getElem?_set_ne hj] at e
      have q := r.at_ j s e
      cases s with
      | no => trivial
      | val p => obtain ⟨v, e1, q⟩ := q; exact ⟨v, e1, q.ext (.refl _) x⟩
      | own p2 =>
        obtain ⟨b, e1, q1, q2, q3, q4⟩ := q
        refine ⟨b, e1, ⟨q1, fun z => ?_⟩, q2, q3, q4.ext (.refl _) x fun o e2 => e2⟩
        subst z
        exact r.dis i j p p2 b hj hρ e hσ e1
  · have back : ∀ (j : Nat) (q : PV), (ρ.set i (.val p))[j]? = some (.own q) → ρ[j]? = some (.own q) := fun j q e => by
      by_cases hj : i = j
      · subst hj
        rw [List.getElem?_set_self hi] at e; cases e
      · rw [List.getElem?_set_ne hj] at e; exact e
    exact r.dis j k q q' b hjk (back j q h1) (back k q' h2) h3 h4
theorem RS.celled {i : Nat} {a : Addr} {l : List PV} (r : RS W cs H O B σ ρ g) (hρ : ρ[i]? = some (.own (.lst l))) (hσ : σ[i]? = some (some (.ref a))) (c : CellsOk W (cs ++ [a]) H O (g ++ [.lst l])) :
    RS W (cs ++ [a]) H O B σ (ρ.set i (.val (.cell g.length))) (g ++ [.lst l]) := by
  have pr : Pre cs (cs ++ [a]) := fun k b e => by
    rw [List.getElem?_append_left (List.getElem?_eq_some_iff.mp e).1]; exact e
  have hi := (List.getElem?_eq_some_iff.mp hρ).1
  refine ⟨by rw [List.length_set]; exact r.len, fun j s e => ?_, fun j k q q' b hjk h1 h2 h3 h4 => ?_, c, r.dom, r.bo⟩
  · by_cases hj : i = j
    · subst hj
      rw [List.getElem?_set_self hi] at e
      cases e
      refine ⟨_, hσ, .cell ?_⟩
      rw [← r.cells.len, List.getElem?_append_right (Nat.le_refl _), Nat.sub_self]
      rfl
    · rw [List.getElem?_set_ne hj] at e
      have q := r.at_ j s e
      cases s with
      | no => trivial
      | val p => obtain ⟨v, e1, q⟩ := q; exact ⟨v, e1, q.ext pr (.refl _ _)⟩
      | own p2 =>
        obtain ⟨b, e1, q1, q2, q3, q4⟩ := q
        refine ⟨b, e1, q1, q2, fun z => ?_, q4.ext pr (.refl _ _) fun o e2 => e2⟩
        rcases List.mem_append.mp z with z | z
        · exact q3 z
        · rw [List.mem_singleton.mp z] at e1
          exact r.dis i j _ p2 a hj hρ e hσ e1
  · have back : ∀ (j : Nat) (q : PV), (ρ.set i (.val (.cell g.length)))[j]? = some (.own q) → ρ[j]? = some (.own q) := fun j q e => by
      by_cases hj : i = j
      · subst hj
        rw [List.getElem?_set_self hi] at e; cases e
      · rw [List.getElem?_set_ne hj] at e; exact e
    exact r.dis j k q q' b hjk (back j q h1) (back k q' h2) h3 h4
/-! ### a place that is changed -/
theorem mod_at {i : Nat} {f : PV → Option PV} {so : SO} (r : RS W cs H O B σ ρ g) (x : EI W cs0 H0 B cs H O g) (h : modV ρ g i f = some (so, g')) :
    ∃ a v v', σ[i]? = some (some (.ref a)) ∧ OwnAt W cs H O a v ∧ O a ∧ f v = some v' ∧ ∀ xs' l', v' = .lst l' → Reps W cs H O xs' l' → xs'.length ≤ LIM →
      ∃ ρ', so = .nx ρ' ∧ RS W cs (upd H a (.lst xs')) O B σ ρ' g' ∧ EI W cs0 H0 B cs (upd H a (.lst xs')) O g' := by
  unfold modV at h
  split at h
  · rename_i v hρ
    split at h
    · rename_i v' hf
      cases h
      obtain ⟨a, hσ, hO, hB, hc, hA⟩ := r.at_ _ _ hρ
      obtain ⟨o, ho⟩ := r.dom a hO
      refine ⟨a, v, v', hσ, hA, hO, hf, fun xs' l' e hr hz => ⟨_, rfl, ?_⟩⟩
      subst e
      have r' := r.modOwn hρ hσ hO hB hc hz hr
      exact ⟨r', x.upd ho (.inl hB) hO r'.cells⟩
    · cases h
  · rename_i k hρ
    split at h
    · rename_i v hg
      split at h
      · rename_i v' hf
        split at h
        · rename_i hfl
          cases h
          obtain ⟨w, hσ, hr0⟩ := r.at_ _ _ hρ
          obtain ⟨a, rfl, hk⟩ : ∃ a, w = .ref a ∧ cs[k]? = some a := by
            cases hr0 with
            | cell e => exact ⟨_, rfl, e⟩
          have hO := r.cells.sub a (List.mem_of_getElem? hk)
          obtain ⟨o, ho⟩ := r.dom a hO
          refine ⟨a, v, v', hσ, r.cells.con k a v hk hg, hO, hf, fun xs' l' e hr hz => ⟨_, rfl, ?_⟩⟩
          subst e
          have r' := r.modCell hk hz hr hfl
          exact ⟨r', x.upd ho (.inr (List.mem_of_getElem? hk)) hO r'.cells⟩
        · cases h
      · cases h
    · cases h
  · cases h
/-- .. its list stands ahead of the arguments -/
theorem mod_there {i : Nat} {f : PV → Option PV} {so : SO} {g1 : G} (r : RS W cs H O B σ ρ g) (hg : g1.length = g.length) (h : modV ρ g1 i f = some (so, g')) : ∃ a xs, σ[i]? = some (some (.ref a)) ∧ H a = some (.lst xs) := by
  have key : ∀ {a : Addr} {p : PV}, OwnAt W cs H O a p → ∃ xs, H a = some (.lst xs) := fun {a p} q => by
    cases p with
    | lst l => obtain ⟨xs, e, _⟩ := q; exact ⟨xs, e⟩
    | _ => exact q.elim
  unfold modV at h
  split at h
  · rename_i v hρ
    obtain ⟨a, hσ, hO, hB, hc, hA⟩ := r.at_ _ _ hρ
    obtain ⟨xs, e⟩ := key hA
    exact ⟨a, xs, hσ, e⟩
  · rename_i k hρ
    split at h
    · rename_i v hg1
      obtain ⟨w, hσ, hr0⟩ := r.at_ _ _ hρ
      obtain ⟨a, rfl, hk⟩ : ∃ a, w = .ref a ∧ cs[k]? = some a := by
        cases hr0 with
        | cell e => exact ⟨_, rfl, e⟩
      have hl := (List.getElem?_eq_some_iff.mp hk).1
      rw [r.cells.len] at hl
      obtain ⟨xs, e⟩ := key (r.cells.con k a g[k] hk (List.getElem?_eq_getElem hl))
      exact ⟨a, xs, hσ, e⟩
    · cases h
  · cases h
/-! ### several stores -/
def setσ (σ : L2.St) : List (Bool × Nat × E) → List V → L2.St
  | (_, i, _) :: l, z :: zs => setσ (σ.set i (some z)) l zs
  | _, _ => σ
inductive Pn (W : Wd) (cs : List Addr) (H : Hp) (O B : Own) : List (Bool × Nat × E) → List V → List PV → List Addr → Prop
  | nil : Pn W cs H O B [] [] [] []
  | val {o : Bool} {i : Nat} {e : E} {l : List (Bool × Nat × E)} {z : V} {zs : List V} {v : PV} {vs : List PV} {ps : List Addr} : (slot o v = none ∨ slot o v = some (.val v)) → Rep W cs H O z v → Pn W cs H O B l zs vs ps → Pn W cs H O B ((o, i, e) :: l) (z :: zs) (v :: vs) ps
  | own {i : Nat} {e : E} {l : List (Bool × Nat × E)} {p : Addr} {zs : List V} {xs : List PV} {vs : List PV} {ps : List Addr} : OwnAt W cs H O p (.lst xs) → ¬ B p → p ∉ cs → p ∉ ps → Pn W cs H O B l zs vs ps → Pn W cs H O B ((true, i, e) :: l) (.ref p :: zs) (.lst xs :: vs) (p :: ps)
theorem Pn.len {l : List (Bool × Nat × E)} {zs : List V} {vs : List PV} {ps : List Addr} (h : Pn W cs H O B l zs vs ps) : zs.length = l.length := by
  induction h with
  | nil => rfl
  | val _ _ _ ih => exact congrArg (· + 1) ih
  | own _ _ _ _ _ ih => exact congrArg (· + 1) ih
theorem Pn.keep {l : List (Bool × Nat × E)} {zs : List V} {vs : List PV} {ps : List Addr} (h : Pn W cs H O B l zs vs ps) (k : Keep cs H H') (c : CellsOk W cs H O g) : Pn W cs H' O B l zs vs ps := by
  induction h with
  | nil => exact .nil
  | val hs hr _ ih => exact .val hs (k.rep c hr) ih
  | own ha hb hc hp _ ih => exact .own (k.own c hc ha) hb hc hp ih
theorem stores_ok : ∀ {l : List (Bool × Nat × E)} {zs : List V} {vs : List PV} {ps : List Addr} {σ : L2.St} {ρ ρ' : Env}, Pn W cs H O B l zs vs ps → RS W cs H O (Bp B ps) σ ρ g → setAll ρ l vs = some ρ' → RS W cs H O B (setσ σ l zs) ρ' g
  | _, _, _, _, σ, ρ, ρ', .nil, r, h => by
    simp only [setAll] at h
    cases h
    exact r.lessB fun a z => .inl z
  | _, _, _, _, σ, ρ, ρ', .val (o := o) (i := i) (v := v) hs hr p, r, h => by
    simp only [setAll] at h
    rcases hs with hs | hs
    · rw [hs] at h; cases h
    · rw [hs] at h
      simp only [setSl] at h
      split at h
      · cases h
      · rename_i ρ1 h1
        split at h1
        · rename_i hi
          cases h1
          have q := stores_ok p (r.put hi hr) h
          exact q
        · cases h1
  | _, _, _, _, σ, ρ, ρ', .own (i := i) (xs := xs) ha hb hc hp p, r, h => by
    simp only [setAll, slot, if_true, setSl] at h
    split at h
    · cases h
    · rename_i ρ1 h1
      split at h1
      · rename_i hi
        cases h1
        have q := stores_ok p (r.putOwn hi hb hp hc ha) h
        exact q
      · cases h1
end
end Z
end

section
set_option Elab.async false
set_option linter.all false
set_option maxRecDepth 100000
set_option maxHeartbeats 1000000
/-! Z17: the check of statements; stores. -/
namespace Z
open PySem L2
def nmOf (sc : Scope) (line : Nat) : Expr → Option Str
  | .Name id pos => if sc.names.lookup id == some .local && pos.line == line then some id else none
  | _ => none
/-- which way a, b = x, y stores -/
def swM (sc : Scope) (ts vs : List Expr) : Option (Option (List Str)) :=
  if (!(ts.length == 2 || ts.length == 3) || vs.length != ts.length) = true then some none
  else if (vs.any fun e => !notStar e) = true then some none
  else if ((ts.filterMap (nmOf sc ((ts.head?.map (·.pos.line)).getD 0))).length != ts.length || (ts.filterMap (nmOf sc ((ts.head?.map (·.pos.line)).getD 0))).eraseDups.length != (ts.filterMap (nmOf sc ((ts.head?.map (·.pos.line)).getD 0))).length) = true then some none
  else if vs.all (foldedForSure 8) = true then some none
  else if vs.all (constantsAlone 8) = true then none
  else some (some (ts.filterMap (nmOf sc ((ts.head?.map (·.pos.line)).getD 0))))
theorem swM_ok {env : PySem.Env} (hk : env.scope.kind = .function) {ts vs : List Expr} {k k' : Nat} {p p' : Pos} {r : Option (List Str)} (h : swM env.scope ts vs = some r) : swappedStores [.Tuple ts k p] (.Tuple vs k' p') env = pure r := by
  have hb : env.blockKind = .function := by unfold Env.blockKind; rw [hk]; rfl
  have hb2 : (env.blockKind != .function) = false := by rw [hb]; rfl
  unfold swM at h
  unfold swappedStores
  have e1 : ∀ f : Expr → Bool, (∀ e, f e = !notStar e) → vs.any f = vs.any (fun e => !notStar e) := fun f h => by
    congr 1
    funext e
    exact h e
  have e2 : ∀ f : Expr → Option Str, (∀ e, f e = nmOf env.scope ((ts.head?.map (·.pos.line)).getD 0) e) → ts.filterMap f = ts.filterMap (nmOf env.scope ((ts.head?.map (·.pos.line)).getD 0)) := fun f h => by
    congr 1
    funext e
    exact h e
  simp only [hb2, Bool.or_false]
  rw [e1 _ (by intro e; cases e <;> rfl), e2 _ (by intro e; cases e <;> rfl)]
  split at h
  · rename_i c1
    cases h
    exact if_pos c1
  · rename_i c1
    refine (if_neg c1).trans ?_
    split at h
    · rename_i c2
      cases h
      exact if_pos c2
    · rename_i c2
      refine (if_neg c2).trans ?_
      split at h
      · rename_i c3
        cases h
        exact if_pos c3
      · rename_i c3
        refine (if_neg c3).trans ?_
        split at h
        · rename_i c4
          cases h
          exact if_pos c4
        · rename_i c4
          refine (if_neg c4).trans ?_
          split at h
          · cases h
          · rename_i c5
            cases h
            exact if_neg c5
end Z
end

section
set_option Elab.async false
set_option linter.all false
set_option maxRecDepth 100000
set_option maxHeartbeats 2000000
/-! Z18: the check of statements; single statements are sound. -/
namespace Z
open PySem L2
def nameAt (C : SC) (i : Nat) : Expr → Bool
  | .Name x _ => decide (C.N[i]? = some x) && loc C.sc x && stoOk C x
  | _ => false
def ckPar (f : Expr → E → Bool) (fs : List Fd) (C : SC) : List Expr → List Expr → List (Bool × Nat × E) → Bool
  | [], [], [] => true
  | t :: ts, e :: es, (o, i, a) :: l => nameAt C i t && f e a && notStar e && !isPk a && (!o || freshE fs a) && ckPar f fs C ts es l
  | _, _, _ => false
def swOk (C : SC) (ts vs : List Expr) (l : List (Bool × Nat × E)) : Bool → Bool
  | false => decide (swM C.sc ts vs = some none)
  | true => match ts, vs, l with
    | [.Name x _, .Name y _], [_, _], [(_, i, _), (_, j, _)] => decide (swM C.sc ts vs = some (some [x, y])) && isLocal C.sc x && isLocal C.sc y && !decide (i = j)
    | [.Name x _, .Name y _, .Name z _], [_, _, _], [(_, i, _), (_, j, _), (_, k, _)] => decide (swM C.sc ts vs = some (some [x, y, z])) && isLocal C.sc x && isLocal C.sc y && isLocal C.sc z && !decide (i = j) && !decide (i = k) && !decide (j = k)
    | _, _, _ => false
def swNone (C : SC) : Expr → Expr → Bool
  | .Tuple ts _ _, .Tuple vs _ _ => decide (swM C.sc ts vs = some none)
  | _, _ => true
def popName : Bool → Str
  | true => "append" | false => "remove"
mutual
def ckS (tb : Tab) (fs : List Fd) (fr : Bool) : Nat → SC → Stmt → S → Bool
  | 0, _, _, _ => false
  | m + 1, C, st, is => match is with
    | .set own i a => (match st with
      | .Assign [t] e _ => nameAt C i t && ckE tb fs (m + 1) C e a && !isPk a && (!own || freshE fs a)
      | _ => false)
    | .unp t a => (match st with
      | .Assign [tg] e _ => isTup tg && ckT C t tg && ckE tb fs m C e a && !isPk a && notComp e && swNone C tg e
      | _ => false)
    | .par sw l => (match st with
      | .Assign [.Tuple ts _ _] (.Tuple vs _ _) _ => ckPar (ckE tb fs m C) fs C ts vs l && decide (vs.length ≤ 10000) && swOk C ts vs l sw
      | _ => false)
    | .sub i x a => (match st with
      | .Assign [.Subscript (.Name y _) ix _] e _ => decide (C.N[i]? = some y) && vis C.sc y && okName y && ckE tb fs m C e a && !isPk a && notComp e && ckE tb fs m C ix x && notSlice ix
      | _ => false)
    | .app i a => (match st with
      | .Expr (.Call (.Attribute (.Name y _) z ap) [l] [] cp) _ => decide (z = "append") && decide (C.N[i]? = some y) && vis C.sc y && okName y && ckE tb fs m C l a && !isPk a && notStar l && (ap.endLine == cp.line)
      | _ => false)
    | .rem i a => (match st with
      | .Expr (.Call (.Attribute (.Name y _) z ap) [l] [] cp) _ => decide (z = "remove") && decide (C.N[i]? = some y) && vis C.sc y && okName y && ckE tb fs m C l a && notStar l && (ap.endLine == cp.line)
      | _ => false)
    | .ex a => (match st with
      | .Expr e _ => ckE tb fs m C e a && notComp e
      | _ => false)
    | .ret a => (match st with
      | .Return (some e) _ => ckE tb fs m C e a && !isPk a && (!fr || freshE fs a)
      | _ => false)
    | .rto i => (match st with
      | .Return (some (.Name y _)) _ => decide (C.N[i]? = some y) && vis C.sc y && okName y
      | _ => false)
    | .retN => (match st with
      | .Return none _ => true
      | _ => false)
    | .ite c a b => (match st with
      | .If t x y _ => ckE tb fs m C t c && ckB tb fs fr m C x a && ckB tb fs fr m C y b
      | _ => false)
    | .for t it b => (match st with
      | .For tg iter body [] _ => ckIt (ckE tb fs m C) C tg iter it && !itPk it && notSet iter && ckT C t tg && ckB tb fs fr m C body b
      | _ => false)
    | .whl c b => (match st with
      | .While t body [] _ => ckE tb fs m C t c && ckB tb fs fr m C body b
      | _ => false)
    | .pas => (match st with
      | .Pass _ => true
      | _ => false)
    | .brk => (match st with
      | .Break _ => true
      | _ => false)
    | .cnt => (match st with
      | .Continue _ => true
      | _ => false)
    | .rai _ => (match st with
      | .Raise .. => true
      | _ => false)
    | _ => false
def ckB (tb : Tab) (fs : List Fd) (fr : Bool) : Nat → SC → List Stmt → List S → Bool
  | 0, _, _, _ => false
  | m + 1, C, sts, is => match is with
    | .frz _ :: r => ckB tb fs fr m C sts r
    | .mkc _ :: r => ckB tb fs fr m C sts r
    | i :: r => (match sts with
      | st :: sts => ckS tb fs fr m C st i && ckB tb fs fr m C sts r
      | [] => false)
    | [] => sts.isEmpty
end
/-! ### the weakest readings -/
def sW (X : Cx) (st : Stmt) : TS := fun D σ H => ∀ (pins : List (Addr × Obj)) (s : Shared), Inv X pins σ H s → wpAny (model X.prog X.w) X.A (exec st X.env) (SP X pins D) X.xe s
def ssW (X : Cx) (sts : List Stmt) : TS := fun D σ H => ∀ (pins : List (Addr × Obj)) (s : Shared), Inv X pins σ H s → wpAny (model X.prog X.w) X.A (execs sts X.env) (SP X pins D) X.xe s
theorem ps_w {X : Cx} {st : Stmt} : PS X st (sW X st) := ⟨fun pins s _ _ _ I h => h pins s I⟩
theorem pss_w {X : Cx} {st : List Stmt} : PSs X st (ssW X st) := ⟨fun pins s _ _ _ I h => h pins s I⟩
theorem PS.w {X : Cx} {st : Stmt} {t : TS} {D : Ends} {σ : L2.St} {H : Hp} (h : PS X st t) (q : t D σ H) : sW X st D σ H := fun pins s I => h.run pins s σ H D I q
theorem PSs.w {X : Cx} {st : List Stmt} {t : TS} {D : Ends} {σ : L2.St} {H : Hp} (h : PSs X st t) (q : t D σ H) : ssW X st D σ H := fun pins s I => h.run pins s σ H D I q
/-- what a statement leaves -/
def SPost (W : Wd) (fr : Bool) (cs0 : List Addr) (H0 : Hp) (B : Own) (cs : List Addr) (H : Hp) (O : Own) (g' : G) (D : Ends) : SO → Prop
  | .nx ρ' => ∀ σ' H' O' cs', Ext H O H' O' → Pre cs cs' → RS W cs' H' O' B σ' ρ' g' → EI W cs0 H0 B cs' H' O' g' → D.nx σ' H'
  | .bk ρ' => ∀ σ' H' O' cs', Ext H O H' O' → Pre cs cs' → RS W cs' H' O' B σ' ρ' g' → EI W cs0 H0 B cs' H' O' g' → D.bk σ' H'
  | .ct ρ' => ∀ σ' H' O' cs', Ext H O H' O' → Pre cs cs' → RS W cs' H' O' B σ' ρ' g' → EI W cs0 H0 B cs' H' O' g' → D.ct σ' H'
  | .rt v => ∀ z H' O' cs', Ext H O H' O' → Pre cs cs' → EI W cs0 H0 B cs' H' O' g' → Rep W cs' H' O' z v → (fr = true → NewV W cs' H0 H' B z v) → D.rt z H'
  | .ex _ _ => False
structure GoS (W : Wd) (tb : Tab) (fs : List Fd) (cf : CF) (d : Nat) (C : SC) (X : Cx) : Prop where
  go : Good W tb fs cf d C X
  ps : PassesOwn (model X.prog X.w) X.A X.env X.xe
  kd : X.env.scope.kind = .function
section
variable {W : Wd} {tb : Tab} {fs : List Fd} {cf : CF} {d n : Nat} {C : SC} {X : Cx} {m : Nat} {cs cs0 : List Addr} {H H0 : Hp} {O B : Own} {σ : L2.St} {ρ : Env} {g g' : G} {fr : Bool} {so : SO} {D : Ends} {st : Stmt}
theorem SPost.step {cs1 : List Addr} {H1 : Hp} {O1 : Own} (q : SPost W fr cs0 H0 B cs H O g' D so) (e : Ext H O H1 O1) (p : Pre cs cs1) : SPost W fr cs0 H0 B cs1 H1 O1 g' D so := by
  cases so with
  | nx ρ' => exact fun σ' H' O' cs' a b c d => q σ' H' O' cs' (e.trans a) (p.trans b) c d
  | bk ρ' => exact fun σ' H' O' cs' a b c d => q σ' H' O' cs' (e.trans a) (p.trans b) c d
  | ct ρ' => exact fun σ' H' O' cs' a b c d => q σ' H' O' cs' (e.trans a) (p.trans b) c d
  | rt v => exact fun z H' O' cs' a b c d f => q z H' O' cs' (e.trans a) (p.trans b) c d f
  | ex _ _ => exact q
theorem SPost.keep {H1 : Hp} (q : SPost W fr cs0 H0 B cs H O g' D so) (k : Keep cs H H1) (s : ∀ a ∈ cs, O a) : SPost W fr cs0 H0 B cs H1 O g' D so := q.step (k.ext s) (.refl _)
theorem bs_v {α : Type} {r : R α} {f : α → G → Option (SO × G)} (h : bs ρ r f = some (so, g')) (q : SPost W fr cs0 H0 B cs H O g' D so) : ∃ a g1, r = some (.v a, g1) ∧ f a g1 = some (so, g') := by
  unfold bs at h
  split at h
  · cases h
  · cases h; exact q.elim
  · exact ⟨_, _, rfl, h⟩
theorem evC_v {ev : EV} {c : E} {b : Bool} (h : evC ev ρ g c = some (.v b, g')) : ev ρ g c = some (.v (.bl b), g') := by
  obtain ⟨v, g1, h1, h⟩ := bd_v h
  cases v with
  | bl b' => obtain ⟨rfl, rfl⟩ := rt_v h; exact h1
  | _ => cases h
theorem nameAt_ok {i : Nat} {t : Expr} (h : nameAt C i t = true) : ∃ x p, t = .Name x p ∧ decide (C.N[i]? = some x) = true ∧ loc C.sc x = true ∧ stoOk C x = true := by
  cases t with
  | Name x p =>
    simp only [nameAt, Bool.and_eq_true] at h
    exact ⟨x, p, rfl, h.1.1, h.1.2, h.2⟩
  | _ => cases h
theorem sw_val {elt : Expr} {gs : List Comprehension} {scope : Scope} {pe : Pos} {t : Str} {p : Pos} {l : Nat} {env : PySem.Env} : swapsWith (.ListComp elt gs scope pe) (some (.Name t p)) l env = pure (env.blockKind == .function && env.kindOf t == some .local && p.line == pe.line && !(scope.names.any fun (n, k) => n == t && (k == .local || k == .cell))) := by
  rfl
theorem swapsSole_of {e t : Expr} {l : Nat} {env : PySem.Env} (h : notComp e = true) : swapsWithSole [t] e l env = pure false := by
  unfold swapsWithSole
  exact swaps_of h
theorem sub_form {o i : Expr} {pos : Pos} {env : PySem.Env} (h : notSlice i = true) : ∀ v, assign (.Subscript o i pos) env v = (do
      let ov ← holding [v] (eval o env)
      let iv ← holding [v, ov] (eval i env)
      standAt pos
      holding [v, ov, iv] (setItem ov iv v)
      release [v, ov, iv] []) := by
  intro v
  cases i <;> first | rfl | cases h
/-- name = e -/
theorem set_name {i : Nat} {x : Str} {px p : Pos} {e : Expr} {a : E} {v : PV} (GO : GoS W tb fs cf d C X) (h1 : decide (C.N[i]? = some x) = true) (h2 : loc C.sc x = true) (h3 : stoOk C x = true) (hc : ckE tb fs (m + 1) C e a = true) (r : RS W cs H O B σ ρ g)
    (he : (Z.ev tb cf n).e ρ g a = some (.v v, g')) (q : PostE W fs cs H O g' a v (fun z H1 => D.nx (σ.set i (some z)) H1)) : sW X (.Assign [.Name x px] e p) D σ H := by
  have hN : X.N.Nodup := by rw [GO.go.N]; exact GO.go.nd
  by_cases nc : notComp e = true
  · exact PS.w (ps_set hN (GO.go.ix h1) (GO.go.loc h2) pe_w (swaps_of nc) (GO.go.fn _ h3)) ((sound_n n).1 C X (m + 1) e a cs H O B σ ρ g g' v _ GO.go hc r he q)
  · cases n with
    | zero => cases he
    | succ n =>
      cases e with
      | ListComp elt gs scope pe =>
        have hw := sw_val (elt := elt) (gs := gs) (scope := scope) (pe := pe) (t := x) (p := px) (l := p.line) (env := X.env)
        cases hb : (X.env.blockKind == .function && X.env.kindOf x == some .local && px.line == pe.line && !(scope.names.any fun (n, k) => n == x && (k == .local || k == .cell))) with
        | false =>
          rw [hb] at hw
          exact PS.w (ps_set hN (GO.go.ix h1) (GO.go.loc h2) pe_w hw (GO.go.fn _ h3)) ((sound_n (n + 1)).1 C X (m + 1) _ a cs H O B σ ρ g g' v _ GO.go hc r he q)
        | true =>
          rw [hb] at hw
          have hl : X.env.scope.names.lookup x = some .local := by
            rw [Bool.and_eq_true, Bool.and_eq_true, Bool.and_eq_true] at hb
            exact eq_of_beq hb.1.1.2
          obtain ⟨ih, iht, _⟩ := sound_n (W := W) (tb := tb) (fs := fs) (cf := cf) (d := d) n
          cases a with
          | comp x t it c own =>
            obtain ⟨elt', tg, iter, ifs, scope', p', e1, h3, ok, z⟩ := se_comp0 ih iht GO.go r hc rfl he q
            cases e1
            refine PS.w (ps_setLc (wi := iW X tg iter) (g := fun v σ H Q => ∀ Y, BkOf X scope Y → gW Y tg v σ H Q) (tt := fun σ H Q => ∀ Y, BkOf X scope Y → ifW Y ifs σ H Q) (te := fun σ H Q => ∀ Y, BkOf X scope Y → eW Y elt σ H Q) GO.go.gx.calm hN (GO.go.ix h1) hl hw pi_w ok
              (fun s H Ca cl fp => ⟨fun pins s' σ H v u Q I r h => h _ ⟨s, _, Ca, cl, fp, rfl⟩ pins s' u I r⟩) (fun s H Ca cl fp => ⟨fun pins s' σ H Q I h => h _ ⟨s, _, Ca, cl, fp, rfl⟩ pins s' I⟩) (fun s H Ca cl fp => ⟨fun pins s' σ H Q I h => h _ ⟨s, _, Ca, cl, fp, rfl⟩ pins s' I⟩) (fold_of h3)) ?_
            rw [ownOf_snd]
            exact z
          | comp2 x t it c t' it' c' own own' =>
            obtain ⟨elt', tg, iter, ifs, tg', iter', ifs', scope', p', e1, h3, h8, ok, h11, z⟩ := se_comp20 ih iht GO.go r hc rfl he q
            cases e1
            refine PS.w (ps_setLc2 (wi := iW X tg iter) (g := fun v σ H Q => ∀ Y, BkOf X scope Y → gW Y tg v σ H Q) (tt := fun σ H Q => ∀ Y, BkOf X scope Y → ifW Y ifs σ H Q) (wi1 := fun σ H R => ∀ Y, BkOf X scope Y → iW Y tg' iter' σ H R) (g1 := fun v σ H Q => ∀ Y, BkOf X scope Y → gW Y tg' v σ H Q)
              (tt1 := fun σ H Q => ∀ Y, BkOf X scope Y → ifW Y ifs' σ H Q) (te := fun σ H Q => ∀ Y, BkOf X scope Y → eW Y elt σ H Q) (vs1 := own') GO.go.gx.calm hN (GO.go.ix h1) hl hw pi_w ok (by rw [ownOf_snd]; exact h11)
              (fun s H Ca cl fp => ⟨fun pins s' σ H v u Q I r h => h _ ⟨s, _, Ca, cl, fp, rfl⟩ pins s' u I r⟩) (fun s H Ca cl fp => ⟨fun pins s' σ H Q I h => h _ ⟨s, _, Ca, cl, fp, rfl⟩ pins s' I⟩) (fun s H Ca cl fp => ⟨fun pins s' σ H Q I h => h _ ⟨s, _, Ca, cl, fp, rfl⟩ pins s' I⟩)
              (fun s H Ca cl fp => ⟨fun pins s' σ H v u Q I r h => h _ ⟨s, _, Ca, cl, fp, rfl⟩ pins s' u I r⟩) (fun s H Ca cl fp => ⟨fun pins s' σ H Q I h => h _ ⟨s, _, Ca, cl, fp, rfl⟩ pins s' I⟩) (fun s H Ca cl fp => ⟨fun pins s' σ H Q I h => h _ ⟨s, _, Ca, cl, fp, rfl⟩ pins s' I⟩)
              (fold_of h3) (fun env => fold_of h8)) ?_
            rw [ownOf_snd]
            exact z
          | _ => simp [ckE] at hc
      | SetComp _ _ _ _ => cases a <;> simp [ckE] at hc
      | DictComp _ _ _ _ _ => cases a <;> simp [ckE] at hc
      | _ => exact absurd rfl nc
theorem new_entry {z : V} {v : PV} {H1 : Hp} {O1 : Own} (x : EI W cs0 H0 B cs H O g) (x1 : ∀ a, B a → O1 a) (h : NewV W cs H H1 O1 z v) : NewV W cs H0 H1 B z v := by
  cases v with
  | lst l =>
    obtain ⟨p, xs, e, h1, h2, h3, h4⟩ := h
    refine ⟨p, xs, e, ?_, h2, h3, h4.ext (.refl _) (Ext.less fun a h => h.elim (fun h => .inl (x1 a h)) .inr)⟩
    cases q : H0 p with
    | none => rfl
    | some o =>
      obtain ⟨o', e'⟩ := x.dm p o q
      rw [h1] at e'; cases e'
  | dic l => exact h
  | _ => trivial
/-- a value into a slot, its own -/
theorem put_new {i : Nat} {l : List PV} {z : V} {H1 : Hp} (r : RS W cs H O B σ ρ g) (x : EI W cs0 H0 B cs H O g) (k : Keep cs H H1) (c : CellsOk W cs H1 O g') (h : NewV W cs H H1 O z (.lst l)) (hi : i < ρ.length) :
    ∃ O', Ext H O H1 O' ∧ RS W cs H1 O' B (σ.set i (some z)) (ρ.set i (.own (.lst l))) g' ∧ EI W cs0 H0 B cs H1 O' g' := by
  obtain ⟨p, xs, rfl, h1, h2, h3, h4⟩ := h
  have c' : CellsOk W cs H1 (fun a => O a ∨ a = p) g' := c.any fun a h => .inl (c.sub a h)
  have r1 := r.grow k h1 ⟨_, h2⟩ c'
  have hB : ¬ B p := fun z => by
    obtain ⟨o, e⟩ := r.dom p (r.bo p z)
    rw [h1] at e; cases e
  have hc : p ∉ cs := fun z => by
    obtain ⟨o, e⟩ := r.dom p (r.cells.sub p z)
    rw [h1] at e; cases e
  have r2 : RS W cs H1 (fun a => O a ∨ a = p) (Bp B [p]) σ ρ g' := r1.lessB fun a z => z.elim .inl fun z => .inr (by simpa using z)
  refine ⟨_, ⟨fun a o e n => ⟨k.at_ a o e fun z => n (r.cells.sub a z), fun z => z.elim n (ne_of_none e h1)⟩⟩, (r2.putOwn (p := .lst l) hi hB (by simp) hc ⟨xs, h2, h3, h4⟩).lessB fun a z => .inl z, x.grow k h1 ⟨_, h2⟩ c'⟩
theorem ss_set {own : Bool} {i : Nat} {a : E} (GO : GoS W tb fs cf d C X) (r : RS W cs H O B σ ρ g) (x : EI W cs0 H0 B cs H O g) (h : ckS tb fs fr (m + 1) C st (.set own i a) = true) (he : evS1 (Z.ev tb cf n).e (Z.ev tb cf n).b ρ g (.set own i a) = some (so, g')) (q : SPost W fr cs0 H0 B cs H O g' D so) : sW X st D σ H := by
  simp only [ckS] at h
  split at h
  · rename_i t e p
    simp only [Bool.and_eq_true] at h
    obtain ⟨⟨⟨h1, h2⟩, h3⟩, h4⟩ := h
    obtain ⟨y, py, rfl, n1, n2, n3⟩ := nameAt_ok h1
    obtain ⟨v, g1, e1, he⟩ := bs_v he q
    unfold setNx at he
    cases own with
    | false =>
      simp only [slot, Bool.false_eq_true, if_false, setSl] at he
      split at he
      · cases he
      · rename_i ρ1 hρ1
        split at hρ1
        · rename_i hi
          cases hρ1
          cases he
          refine set_name GO n1 n2 n3 h2 r e1 fun z H1 k c ans => ?_
          exact q _ H1 O cs (k.ext r.cells.sub) (.refl _) ((r.keep k c).put hi (ans.rep (by simpa using h3))) (x.keep k c)
        · cases hρ1
    | true =>
      have hf : freshE fs a = true := by simpa using h4
      cases v with
      | lst l =>
        simp only [slot, if_true, setSl] at he
        split at he
        · cases he
        · rename_i ρ1 hρ1
          split at hρ1
          · rename_i hi
            cases hρ1
            cases he
            refine set_name GO n1 n2 n3 h2 r e1 fun z H1 k c ans => ?_
            obtain ⟨O', a1, a2, a3⟩ := put_new r x k c (ans.new hf) hi
            exact q _ H1 O' cs a1 (.refl _) a2 a3
          · cases hρ1
      | dic l =>
        refine set_name GO n1 n2 n3 h2 r e1 fun z H1 k c ans => ?_
        exact (ans.new hf).elim
      | _ => simp [slot] at he
  · cases h
theorem ss_unp {t : T} {a : E} (GO : GoS W tb fs cf d C X) (r : RS W cs H O B σ ρ g) (x : EI W cs0 H0 B cs H O g) (h : ckS tb fs fr (m + 1) C st (.unp t a) = true) (he : evS1 (Z.ev tb cf n).e (Z.ev tb cf n).b ρ g (.unp t a) = some (so, g')) (q : SPost W fr cs0 H0 B cs H O g' D so) : sW X st D σ H := by
  simp only [ckS] at h
  split at h
  · rename_i tg e p
    simp only [Bool.and_eq_true] at h
    obtain ⟨⟨⟨⟨⟨h1, h2⟩, h3⟩, h4⟩, h5⟩, h6⟩ := h
    obtain ⟨ts, k, pt, rfl⟩ := isTup_of h1
    obtain ⟨v, g1, e1, he⟩ := bs_v he q
    split at he
    · rename_i ρ' hb
      cases he
      have sn : swappedStores [.Tuple ts k pt] e X.env = pure none := by
        cases e with
        | Tuple vs k2 p2 =>
          refine swM_ok GO.kd ?_
          rw [GO.go.sc]
          exact of_decide_eq_true h6
        | _ => rfl
      refine PS.w (ps_asg pe_w pg_w (swapsSole_of h5) sn rfl) ((sound_n n).1 C X m e a cs H O B σ ρ g g' v _ GO.go h3 r e1 fun z H1 k1 c1 a1 => ?_)
      exact tgt_ok GO.go t h2 (a1.rep (by simpa using h4)) (r.keep k1 c1) hb fun σ' r' _ => q σ' H1 O cs (k1.ext r.cells.sub) (.refl _) r' (x.keep k1 c1)
    · cases he
  · cases h
theorem ss_sub {i : Nat} {ix a : E} (GO : GoS W tb fs cf d C X) (r : RS W cs H O B σ ρ g) (x : EI W cs0 H0 B cs H O g) (h : ckS tb fs fr (m + 1) C st (.sub i ix a) = true) (he : evS1 (Z.ev tb cf n).e (Z.ev tb cf n).b ρ g (.sub i ix a) = some (so, g')) (q : SPost W fr cs0 H0 B cs H O g' D so) : sW X st D σ H := by
  simp only [ckS] at h
  split at h
  · rename_i y py sx ps e p
    simp only [Bool.and_eq_true] at h
    obtain ⟨⟨⟨⟨⟨⟨⟨h1, h2⟩, h3⟩, h4⟩, h5⟩, h6⟩, h7⟩, h8⟩ := h
    obtain ⟨v, g1, e1, he⟩ := bs_v he q
    obtain ⟨w, g2, e2, he⟩ := bs_v he q
    have sn : swappedStores [.Subscript (.Name y py) sx ps] e X.env = pure none := by
      cases e <;> rfl
    refine PS.w (ps_asg pe_w (pg_sub (pe_var (GO.go.ix h1) (GO.go.vis h2) (okName_1 h3) (okName_2 h3)) pe_w set_list (sub_form h8)) (swapsSole_of h6) sn rfl) ((sound_n n).1 C X m e a cs H O B σ ρ g g1 v _ GO.go h4 r e1 fun z H1 k1 c1 a1 => ?_)
    have r1 := r.keep k1 c1
    have x1 := x.keep k1 c1
    obtain ⟨_, _, _, hσ0, _⟩ : ∃ a v v', σ[i]? = some (some (.ref a)) ∧ True := by
      have r1' := r1
      unfold modV at he
      split at he
      · rename_i v hρ
        obtain ⟨a, hσ, _⟩ := r.at_ _ _ hρ
        exact ⟨a, v, v, hσ, trivial⟩
      · rename_i k hρ
        obtain ⟨w, hσ, hr0⟩ := r.at_ _ _ hρ
        cases hr0 with
        | cell e => exact ⟨_, v, v, hσ, trivial⟩
      · cases he
    refine ⟨_, hσ0, ?_⟩
    refine (sound_n n).1 C X m sx ix cs H1 O B σ ρ g1 g2 w _ GO.go h7 r1 e2 fun zi H2 k2 c2 a2 => ?_
    have r2 := r1.keep k2 c2
    have x2 := x1.keep k2 c2
    obtain ⟨b, v0, v1, hσ, hA, hO, hf, fin⟩ := mod_at r2 x2 he
    rw [hσ0] at hσ
    cases hσ
    unfold putV at hf
    split at hf
    · rename_i l
      split at hf
      · rename_i j
        split at hf
        · rename_i jj hj
          cases hf
          obtain ⟨xs, b1, b2, b3⟩ := hA
          refine ⟨_, xs, j, jj, rfl, a2.r2.one.int, b1, by rw [b3.length]; exact hj, ?_⟩
          obtain ⟨ρ', rfl, f1, f2⟩ := fin (xs.set jj z) _ rfl (b3.set (k2.rep c1 (a1.rep (by simpa using h5))) jj) (by rw [List.length_set]; exact b2)
          exact q σ _ O cs ((((k1.trans k2).ext r.cells.sub)).trans (Ext.upd hO)) (.refl _) f1 f2
        · cases hf
      · cases hf
    · cases hf
  · cases h
theorem ss_app {i : Nat} {a : E} (GO : GoS W tb fs cf d C X) (r : RS W cs H O B σ ρ g) (x : EI W cs0 H0 B cs H O g) (h : ckS tb fs fr (m + 1) C st (.app i a) = true) (he : evS1 (Z.ev tb cf n).e (Z.ev tb cf n).b ρ g (.app i a) = some (so, g')) (q : SPost W fr cs0 H0 B cs H O g' D so) : sW X st D σ H := by
  simp only [ckS] at h
  split at h
  · rename_i y py z ap l cp p
    simp only [Bool.and_eq_true] at h
    obtain ⟨⟨⟨⟨⟨⟨⟨h0, h1⟩, h2⟩, h3⟩, h4⟩, h5⟩, h6⟩, h7⟩ := h
    have h0 := of_decide_eq_true h0
    subst h0
    obtain ⟨v, g1, e1, he⟩ := bs_v he q
    have hs : swapsWith (.Call (.Attribute (.Name y py) "append" ap) [l] [] cp) none p.line X.env = pure false := rfl
    obtain ⟨b0, xs0, hσ0, hH0⟩ : ∃ a xs, σ[i]? = some (some (.ref a)) ∧ H a = some (.lst xs) := by
      have key : ∀ {a : Addr} {p : PV}, OwnAt W cs H O a p → ∃ xs, H a = some (.lst xs) := fun {a p} q => by
        cases p with
        | lst l => obtain ⟨xs, e, _⟩ := q; exact ⟨xs, e⟩
        | _ => exact q.elim
      unfold modV at he
      split at he
      · rename_i v hρ
        obtain ⟨a, hσ, _, _, _, hA⟩ := r.at_ _ _ hρ
        obtain ⟨xs, e⟩ := key hA
        exact ⟨a, xs, hσ, e⟩
      · rename_i k hρ
        obtain ⟨w, hσ, hr0⟩ := r.at_ _ _ hρ
        cases hr0 with
        | cell e =>
          rename_i ca
          have hl := (List.getElem?_eq_some_iff.mp e).1
          rw [r.cells.len] at hl
          obtain ⟨xs, e2⟩ := key (r.cells.con k ca g[k] e (List.getElem?_eq_getElem hl))
          exact ⟨ca, xs, hσ, e2⟩
      · cases he
    refine PS.w (ps_expr (pe_bm PySem.F.plainAttrs_list PySem.F.slot_list_append PySem.F.type_list_append mt_append (pe_var (GO.go.ix h1) (GO.go.vis h2) (okName_1 h3) (okName_2 h3)) (pa_cons pe_w pa_nil (star_cons h6)) rfl (few_of (o := l) h6) h7 (star_cons h6) rfl) hs) ?_
    refine ⟨_, hσ0, .inl ⟨rfl, xs0, .inl (.inl hH0)⟩, ?_⟩
    refine (sound_n n).1 C X m l a cs H O B σ ρ g g1 v _ GO.go h4 r e1 fun zi H1 k1 c1 a1 => ?_
    have r1 := r.keep k1 c1
    have x1 := x.keep k1 c1
    obtain ⟨b, v0, v1, hσ, hA, hO, hf, fin⟩ := mod_at r1 x1 he
    rw [hσ0] at hσ
    cases hσ
    unfold appV at hf
    split at hf
    · rename_i l0
      split at hf
      · rename_i hz
        cases hf
        obtain ⟨xs, b1, b2, b3⟩ := hA
        have hl := b3.length
        refine ⟨_, xs, zi, rfl, rfl, b1, by rw [lim_eq, hl]; exact hz, ?_⟩
        obtain ⟨ρ', rfl, f1, f2⟩ := fin (xs ++ [zi]) _ rfl (b3.append (.cons (a1.rep (by simpa using h5)) .nil)) (by rw [List.length_append, hl]; exact hz)
        exact q σ _ O cs ((k1.ext r.cells.sub).trans (Ext.upd hO)) (.refl _) f1 f2
      · cases hf
    · cases hf
  · cases h
theorem ss_rem {i : Nat} {a : E} (GO : GoS W tb fs cf d C X) (r : RS W cs H O B σ ρ g) (x : EI W cs0 H0 B cs H O g) (h : ckS tb fs fr (m + 1) C st (.rem i a) = true) (he : evS1 (Z.ev tb cf n).e (Z.ev tb cf n).b ρ g (.rem i a) = some (so, g')) (q : SPost W fr cs0 H0 B cs H O g' D so) : sW X st D σ H := by
  simp only [ckS] at h
  split at h
  · rename_i y py z ap l cp p
    simp only [Bool.and_eq_true] at h
    obtain ⟨⟨⟨⟨⟨⟨h0, h1⟩, h2⟩, h3⟩, h4⟩, h6⟩, h7⟩ := h
    have h0 := of_decide_eq_true h0
    subst h0
    obtain ⟨v, g1, e1, he⟩ := bs_v he q
    have hs : swapsWith (.Call (.Attribute (.Name y py) "remove" ap) [l] [] cp) none p.line X.env = pure false := rfl
    obtain ⟨b0, xs0, hσ0, hH0⟩ : ∃ a xs, σ[i]? = some (some (.ref a)) ∧ H a = some (.lst xs) := by
      have key : ∀ {a : Addr} {p : PV}, OwnAt W cs H O a p → ∃ xs, H a = some (.lst xs) := fun {a p} q => by
        cases p with
        | lst l => obtain ⟨xs, e, _⟩ := q; exact ⟨xs, e⟩
        | _ => exact q.elim
      unfold modV at he
      split at he
      · rename_i v hρ
        obtain ⟨a, hσ, _, _, _, hA⟩ := r.at_ _ _ hρ
        obtain ⟨xs, e⟩ := key hA
        exact ⟨a, xs, hσ, e⟩
      · rename_i k hρ
        obtain ⟨w, hσ, hr0⟩ := r.at_ _ _ hρ
        cases hr0 with
        | cell e =>
          rename_i ca
          have hl := (List.getElem?_eq_some_iff.mp e).1
          rw [r.cells.len] at hl
          obtain ⟨xs, e2⟩ := key (r.cells.con k ca g[k] e (List.getElem?_eq_getElem hl))
          exact ⟨ca, xs, hσ, e2⟩
      · cases he
    have hK := GO.go.gx.K
    refine PS.w (ps_expr (pe_bm PySem.F.plainAttrs_list PySem.F.slot_list_remove PySem.F.type_list_remove mt_removeD (pe_var (GO.go.ix h1) (GO.go.vis h2) (okName_1 h3) (okName_2 h3)) (pa_cons pe_w pa_nil (star_cons h6)) rfl (few_of (o := l) h6) h7 (star_cons h6) rfl) hs) ?_
    refine ⟨_, hσ0, .inl ⟨rfl, xs0, .inl (.inl hH0)⟩, ?_⟩
    refine (sound_n n).1 C X m l a cs H O B σ ρ g g1 v _ GO.go h4 r e1 fun zi H1 k1 c1 a1 => ?_
    have r1 := r.keep k1 c1
    have x1 := x.keep k1 c1
    obtain ⟨b, v0, v1, hσ, hA, hO, hf, fin⟩ := mod_at r1 x1 he
    rw [hσ0] at hσ
    cases hσ
    unfold remV at hf
    split at hf
    · rename_i l0
      split at hf
      · rename_i hz
        rw [Bool.and_eq_true] at hz
        split at hf
        · rename_i j hj
          cases hf
          obtain ⟨xs, b1, b2, b3⟩ := hA
          obtain ⟨_, zd, q1, q2, q3⟩ := place_at DEEP DEEP v hz.1 _ 0 j hz.2 hj
          refine ⟨_, xs, zi, v.toD, PV.toDs _, j, zd, rfl, rfl, b1, by rw [hK]; exact b3.dp _ hz.2, by rw [hK]; exact a1.r2.one.dp _ hz.1, (okds_plain _ _ hz.2).1, (okd_deep hz.1).1, (okd_deep hz.1).2, GO.go.gx.un, by simpa using q1, q2, fun m z' hm => q3 m z' (by simpa using hm), ?_⟩
          obtain ⟨ρ', rfl, f1, f2⟩ := fin (xs.eraseIdx j) _ rfl (b3.eraseIdx j) (Nat.le_trans (len_erase _ _) b2)
          exact q σ _ O cs ((k1.ext r.cells.sub).trans (Ext.upd hO)) (.refl _) f1 f2
        · cases hf
      · cases hf
    · cases hf
  · cases h
end
end Z
end

section
set_option Elab.async false
set_option linter.all false
set_option maxRecDepth 100000
set_option maxHeartbeats 2000000
/-! Z19: parallel stores, loops, blocks. -/
namespace Z
open PySem L2
section
variable {W : Wd} {tb : Tab} {fs : List Fd} {cf : CF} {d n : Nat} {C : SC} {X : Cx} {m : Nat} {cs cs0 : List Addr} {H H0 : Hp} {O B : Own} {σ : L2.St} {ρ : Env} {g g' : G} {fr : Bool} {so : SO} {D : Ends} {st : Stmt} {ev : EV}
theorem Pn.ext {H' : Hp} {O' : Own} {l : List (Bool × Nat × E)} {zs : List V} {vs : List PV} {ps : List Addr} (h : Pn W cs H O B l zs vs ps) (x : Ext H O H' O') (k : ∀ a ∈ ps, ∀ o, H a = some o → H' a = some o) : Pn W cs H' O' B l zs vs ps := by
  induction h with
  | nil => exact .nil
  | val hs hr _ ih => exact .val hs (hr.ext (.refl _) x) (ih k)
  | own ha hb hc hp _ ih => exact .own (ha.ext (.refl _) x (k _ List.mem_cons_self)) hb hc hp (ih fun a h => k a (List.mem_cons_of_mem _ h))
theorem pargs (ih : SE W tb fs cf d ev) (GO : Good W tb fs cf d C X) : ∀ {l : List (Bool × Nat × E)} {ts es : List Expr} {vs : List PV} {H : Hp} {O : Own} {ps : List Addr} {g : G} {Q : List V → Hp → Prop}, ckPar (ckE tb fs m C) fs C ts es l = true → RS W cs H O (Bp B ps) σ ρ g → EI W cs0 H0 B cs H O g →
    evL ev ρ g (l.map fun p => p.2.2) = some (.v vs, g') → (∀ zs H' O' ps', Keep cs H H' → Ext H O H' O' → (∀ a, O a → O' a) → RS W cs H' O' (Bp B (ps' ++ ps)) σ ρ g' → EI W cs0 H0 B cs H' O' g' → Pn W cs H' O' B l zs vs ps' → (∀ a ∈ ps', H a = none) → Q zs H') → aW X es σ H Q
  | [], ts, es, vs, H, O, ps, g, Q, hc, r, x, he, q => by
    match ts, es, hc with
    | [], [], _ =>
      obtain ⟨rfl, rfl⟩ := rt_v he
      exact PA.w pa_nil (q [] H O [] (.refl _ _) (.refl _ _) (fun _ h => h) r x .nil fun a h => by cases h)
    | _ :: _, _, hc => simp [ckPar] at hc
    | [], _ :: _, hc => simp [ckPar] at hc
  | (o, i, a) :: l, ts, es, vs, H, O, ps, g, Q, hc, r, x, he, q => by
    match ts, es, hc with
    | [], _, hc => simp [ckPar] at hc
    | _ :: _, [], hc => simp [ckPar] at hc
    | t :: ts, e :: es, hc =>
      simp only [ckPar, Bool.and_eq_true] at hc
      obtain ⟨⟨⟨⟨⟨c1, c2⟩, c3⟩, c4⟩, c5⟩, c6⟩ := hc
      obtain ⟨v, g1, h1, he⟩ := bd_v he
      obtain ⟨ws, g2, h2, he⟩ := bd_v he
      obtain ⟨rfl, rfl⟩ := rt_v he
      refine PA.w (pa_cons pe_w pa_w (star_cons c3)) (ih C X m e a cs H O _ σ ρ g g1 v _ GO c2 r h1 fun z H1 k1 cc1 a1 => ?_)
      have hp : isPk a = false := by simpa using c4
      by_cases hs : slot o v = none ∨ slot o v = some (.val v)
      · refine pargs ih GO c6 (r.keep k1 cc1) (x.keep k1 cc1) h2 fun zs H' O' ps' k2 e2 o2 r2 x2 p2 f2 => ?_
        exact q (z :: zs) H' O' ps' (k1.trans k2) ((k1.ext r.cells.sub).trans e2) o2 r2 x2 (.val hs ((a1.rep hp).ext (.refl _) e2) p2) fun a ha => k1.none (f2 a ha)
      · obtain ⟨rfl, xs, rfl⟩ : o = true ∧ ∃ xs, v = .lst xs := by
          cases o with
          | false => exact absurd (.inr rfl) hs
          | true =>
            cases v with
            | lst xs => exact ⟨rfl, xs, rfl⟩
            | dic xs => exact ((a1.new (by simpa using c5)) : False).elim
            | _ => exact absurd (.inl rfl) hs
        obtain ⟨p, ys, rfl, n1, n2, n3, n4⟩ := a1.new (by simpa using c5)
        have c' : CellsOk W cs H1 (fun a => O a ∨ a = p) g1 := cc1.any fun a h => .inl (cc1.sub a h)
        have r1 : RS W cs H1 (fun a => O a ∨ a = p) (Bp B (p :: ps)) σ ρ g1 := (r.grow k1 n1 ⟨_, n2⟩ c').lessB fun a z => by
          rcases z with z | z
          · exact .inl (.inl z)
          · rcases List.mem_cons.mp z with z | z
            · exact .inr z
            · exact .inl (.inr z)
        have hB : ¬ B p := fun z => by
          obtain ⟨o, e⟩ := x.dom p (x.bo p z)
          rw [n1] at e; cases e
        have hpc : p ∉ cs := fun z => by
          obtain ⟨o, e⟩ := x.dom p (x.cells.sub p z)
          rw [n1] at e; cases e
        have e1 : Ext H O H1 (fun a => O a ∨ a = p) := ⟨fun a o e n => ⟨k1.at_ a o e fun z => n (r.cells.sub a z), fun z => z.elim n (ne_of_none e n1)⟩⟩
        refine pargs ih GO c6 r1 (x.grow k1 n1 ⟨_, n2⟩ c') h2 fun zs H' O' ps' k2 e2 o2 r2 x2 p2 f2 => ?_
        have hpp : p ∉ ps' := fun z => by
          have := f2 p z
          rw [n2] at this; cases this
        refine q (.ref p :: zs) H' O' (p :: ps') (k1.trans k2) (e1.trans e2) (fun a h => o2 a (.inl h)) (r2.lessB fun a z => ?_) x2 (.own (OwnAt.ext (p := .lst xs) (.refl _) e2 (fun o e => k2.at_ p o e hpc) ⟨ys, n2, n3, n4⟩) hB hpc hpp p2) fun a ha => ?_
        · rcases z with z | z
          · exact .inl z
          · rcases List.mem_append.mp z with z | z
            · rcases List.mem_cons.mp z with z | z
              · exact .inr (List.mem_append_right _ (by rw [z]; exact List.mem_cons_self))
              · exact .inr (List.mem_append_left _ z)
            · exact .inr (List.mem_append_right _ (List.mem_cons_of_mem _ z))
        · rcases List.mem_cons.mp ha with z | z
          · rw [z]; exact n1
          · exact k1.none (f2 a z)
theorem gs_names (GO : Good W tb fs cf d C X) {f : Expr → E → Bool} : ∀ {l : List (Bool × Nat × E)} {ts es : List Expr} {zs : List V} {σ : L2.St} {Q : L2.St → Hp → Prop}, ckPar f fs C ts es l = true → zs.length = l.length → Q (setσ σ l zs) H → gsW X ts zs σ H Q
  | [], ts, es, zs, σ, Q, hc, hl, q => by
    match ts, es, hc with
    | [], [], _ =>
      have : zs = [] := List.eq_nil_of_length_eq_zero hl
      subst this
      exact PGs.w pgs_nil ⟨rfl, q⟩
    | _ :: _, _, hc => simp [ckPar] at hc
    | [], _ :: _, hc => simp [ckPar] at hc
  | (o, i, a) :: l, ts, es, zs, σ, Q, hc, hl, q => by
    match ts, es, hc with
    | [], _, hc => simp [ckPar] at hc
    | _ :: _, [], hc => simp [ckPar] at hc
    | t :: ts, e :: es, hc =>
      simp only [ckPar, Bool.and_eq_true] at hc
      obtain ⟨⟨⟨⟨⟨c1, c2⟩, c3⟩, c4⟩, c5⟩, c6⟩ := hc
      obtain ⟨x, p, rfl, n1, n2, n3⟩ := nameAt_ok c1
      match zs, hl with
      | z :: zs, hl =>
        refine PGs.w (pgs_cons (pg_name (by rw [GO.N]; exact GO.nd) (GO.ix n1) (GO.loc n2) (GO.fn _ n3)) (pgs_w (es := ts)) rfl) ⟨z, zs, rfl, ?_⟩
        exact gs_names GO c6 (Nat.succ.inj hl) q
theorem par_shape {f : Expr → E → Bool} : ∀ {l : List (Bool × Nat × E)} {ts es : List Expr}, ckPar f fs C ts es l = true → (assignEach ts X.env).length = l.length ∧ (assignEach ts X.env).findIdx? (·.1) = none ∧ es.length = l.length
  | [], ts, es, hc => by
    match ts, es, hc with
    | [], [], _ => exact ⟨rfl, rfl, rfl⟩
    | _ :: _, _, hc => simp [ckPar] at hc
    | [], _ :: _, hc => simp [ckPar] at hc
  | (o, i, a) :: l, ts, es, hc => by
    match ts, es, hc with
    | [], _, hc => simp [ckPar] at hc
    | _ :: _, [], hc => simp [ckPar] at hc
    | t :: ts, e :: es, hc =>
      simp only [ckPar, Bool.and_eq_true] at hc
      obtain ⟨⟨⟨⟨⟨c1, c2⟩, c3⟩, c4⟩, c5⟩, c6⟩ := hc
      obtain ⟨x, p, rfl, n1, n2, n3⟩ := nameAt_ok c1
      obtain ⟨a1, a2, a3⟩ := par_shape c6
      have q : assignEach (.Name x p :: ts) X.env = (false, assign (.Name x p) X.env) :: assignEach ts X.env := rfl
      rw [q]
      refine ⟨congrArg (· + 1) a1, ?_, congrArg (· + 1) a3⟩
      rw [List.findIdx?_cons]
      simp only [Bool.false_eq_true, if_false, a2, Option.map_none]
theorem ss_par {sw : Bool} {l : List (Bool × Nat × E)} (GO : GoS W tb fs cf d C X) (r : RS W cs H O B σ ρ g) (x : EI W cs0 H0 B cs H O g) (h : ckS tb fs fr (m + 1) C st (.par sw l) = true) (he : evS1 (Z.ev tb cf n).e (Z.ev tb cf n).b ρ g (.par sw l) = some (so, g')) (q : SPost W fr cs0 H0 B cs H O g' D so) : sW X st D σ H := by
  simp only [ckS] at h
  split at h
  · rename_i ts kt pt vs k2 pt2 p
    simp only [Bool.and_eq_true] at h
    obtain ⟨⟨h1, h2⟩, h3⟩ := h
    have h2 := of_decide_eq_true h2
    obtain ⟨ws, g1, e1, he⟩ := bs_v he q
    split at he
    · rename_i ρ' hs
      cases he
      have ih := (sound_n (W := W) (tb := tb) (fs := fs) (cf := cf) (d := d) n).1
      have hN : X.N.Nodup := by rw [GO.go.N]; exact GO.go.nd
      obtain ⟨s1, s2, s3⟩ := par_shape (X := X) h1
      have r0 : RS W cs H O (Bp B []) σ ρ g := r.lessB fun a z => z.elim id fun z => by cases z
      have core : ∀ {Q : List V → Hp → Prop}, (∀ zs H' O' ps', zs.length = l.length → Keep cs H H' → Ext H O H' O' → RS W cs H' O' (Bp B ps') σ ρ g' → EI W cs0 H0 B cs H' O' g' → Pn W cs H' O' B l zs ws ps' → Q zs H') → aW X vs σ H Q := fun f =>
        pargs ih GO.go h1 r0 x e1 fun zs H' O' ps' k e _ r' x' pn _ => f zs H' O' ps' pn.len k e (by rw [List.append_nil] at r'; exact r') x' pn
      cases sw with
      | false =>
        have hm : swM X.env.scope ts vs = some none := by rw [GO.go.sc]; exact of_decide_eq_true h3
        refine PS.w (ps_asg (pe_tup pa_w) (pg_tup (n := l.length) GO.go.gx.calm (pgs_w (es := ts)) s1 s2) (swapsSole_of rfl) (swM_ok GO.kd hm) rfl) (core fun zs H' O' ps' hl k e r' x' pn => ⟨?_, fun T hT => ?_⟩)
        · rw [hl, ← s3]
          exact lim_le (Nat.le_trans h2 (by decide))
        · have kT : Keep cs H' (upd H' T (.tup zs)) := Keep.new hT
          have cT := x'.cells.new (o := .tup zs) hT
          refine ⟨T, zs, rfl, .inl (.inl upd_same), hl, gs_names GO.go h1 hl ?_⟩
          have pn' := pn.keep kT x'.cells
          exact q _ _ O' cs (e.trans (kT.ext x'.cells.sub)) (.refl _) (stores_ok pn' (r'.keep kT cT) hs) (x'.keep kT cT)
      | true =>
        simp only [swOk] at h3
        split at h3
        · rename_i x1 p1 x2 p2 a1 a2 o1 i1 b1 o2 i2 b2
          simp only [Bool.and_eq_true] at h3
          obtain ⟨⟨⟨m1, m2⟩, m3⟩, m4⟩ := h3
          simp only [ckPar, nameAt, Bool.and_eq_true] at h1
          refine PS.w (ps_par GO.go.gx.calm hN (GO.go.ix h1.1.1.1.1.1.1.1) (GO.go.ix h1.2.1.1.1.1.1.1.1) (by simpa using m4) (by rw [GO.go.sc]; exact of_decide_eq_true m2) (by rw [GO.go.sc]; exact of_decide_eq_true m3) pa_w (swM_ok GO.kd (by rw [GO.go.sc]; exact of_decide_eq_true m1)) (swapsSole_of rfl)) (core fun zs H' O' ps' hl k e r' x' pn => ?_)
          match zs, hl with
          | [z1, z2], _ => exact ⟨z1, z2, rfl, q _ _ O' cs e (.refl _) (stores_ok pn r' hs) x'⟩
        · rename_i x1 p1 x2 p2 x3 p3 a1 a2 a3 o1 i1 b1 o2 i2 b2 o3 i3 b3
          simp only [Bool.and_eq_true] at h3
          obtain ⟨⟨⟨⟨⟨⟨m1, m2⟩, m3⟩, m4⟩, m5⟩, m6⟩, m7⟩ := h3
          simp only [ckPar, nameAt, Bool.and_eq_true] at h1
          refine PS.w (ps_par3 GO.go.gx.calm hN (GO.go.ix h1.1.1.1.1.1.1.1) (GO.go.ix h1.2.1.1.1.1.1.1.1) (GO.go.ix h1.2.2.1.1.1.1.1.1.1) (by simpa using m5) (by simpa using m6) (by simpa using m7) (by rw [GO.go.sc]; exact of_decide_eq_true m2) (by rw [GO.go.sc]; exact of_decide_eq_true m3) (by rw [GO.go.sc]; exact of_decide_eq_true m4) pa_w
            (swM_ok GO.kd (by rw [GO.go.sc]; exact of_decide_eq_true m1)) (swapsSole_of rfl)) (core fun zs H' O' ps' hl k e r' x' pn => ?_)
          match zs, hl with
          | [z1, z2, z3], _ => exact ⟨z1, z2, z3, rfl, q _ _ O' cs e (.refl _) (stores_ok pn r' hs) x'⟩
        · cases h3
    · cases he
  · cases h
theorem ss_ex {a : E} (GO : GoS W tb fs cf d C X) (r : RS W cs H O B σ ρ g) (x : EI W cs0 H0 B cs H O g) (h : ckS tb fs fr (m + 1) C st (.ex a) = true) (he : evS1 (Z.ev tb cf n).e (Z.ev tb cf n).b ρ g (.ex a) = some (so, g')) (q : SPost W fr cs0 H0 B cs H O g' D so) : sW X st D σ H := by
  simp only [ckS] at h
  split at h
  · rename_i e p
    simp only [Bool.and_eq_true] at h
    obtain ⟨v, g1, e1, he⟩ := bs_v he q
    cases he
    refine PS.w (ps_expr pe_w (swaps_of h.2)) ((sound_n n).1 C X m e a cs H O B σ ρ g g' v _ GO.go h.1 r e1 fun z H1 k1 c1 a1 => ?_)
    exact q σ H1 O cs (k1.ext r.cells.sub) (.refl _) (r.keep k1 c1) (x.keep k1 c1)
  · cases h
theorem ss_ret {a : E} (GO : GoS W tb fs cf d C X) (r : RS W cs H O B σ ρ g) (x : EI W cs0 H0 B cs H O g) (h : ckS tb fs fr (m + 1) C st (.ret a) = true) (he : evS1 (Z.ev tb cf n).e (Z.ev tb cf n).b ρ g (.ret a) = some (so, g')) (q : SPost W fr cs0 H0 B cs H O g' D so) : sW X st D σ H := by
  simp only [ckS] at h
  split at h
  · rename_i e p
    simp only [Bool.and_eq_true] at h
    obtain ⟨⟨h1, h2⟩, h3⟩ := h
    obtain ⟨v, g1, e1, he⟩ := bs_v he q
    cases he
    refine PS.w (ps_ret pe_w) ((sound_n n).1 C X m e a cs H O B σ ρ g g' v _ GO.go h1 r e1 fun z H1 k1 c1 a1 => ?_)
    refine q z H1 O cs (k1.ext r.cells.sub) (.refl _) (x.keep k1 c1) (a1.rep (by simpa using h2)) fun hf => ?_
    subst hf
    exact new_entry x x.bo (a1.new (by simpa using h3))
  · cases h
theorem ss_rto {i : Nat} (GO : GoS W tb fs cf d C X) (r : RS W cs H O B σ ρ g) (x : EI W cs0 H0 B cs H O g) (h : ckS tb fs fr (m + 1) C st (.rto i) = true) (he : evS1 (Z.ev tb cf n).e (Z.ev tb cf n).b ρ g (.rto i) = some (so, g')) (q : SPost W fr cs0 H0 B cs H O g' D so) : sW X st D σ H := by
  simp only [ckS] at h
  split at h
  · rename_i y py p
    simp only [Bool.and_eq_true] at h
    obtain ⟨⟨h1, h2⟩, h3⟩ := h
    simp only [evS1] at he
    split at he
    · rename_i v hρ
      cases he
      obtain ⟨a, hσ, hO, hB, hc, hA⟩ := r.at_ _ _ hρ
      refine PS.w (ps_ret (pe_var (GO.go.ix h1) (GO.go.vis h2) (okName_1 h3) (okName_2 h3))) ⟨_, hσ, ?_⟩
      cases v with
      | lst l =>
        obtain ⟨xs, b1, b2, b3⟩ := hA
        have less : Ext H O H (fun b => O b ∧ b ≠ a) := Ext.less fun _ h => h.1
        refine q _ H _ cs less (.refl _) (x.drop hB hc) (.lst b1 (fun z => z.2 rfl) b2 (b3.ext (.refl _) less)) fun _ => ⟨a, xs, rfl, (x.nw a hO).resolve_left hB, b1, b2, b3.ext (.refl _) (Ext.less fun b h => ?_)⟩
        rcases h with h | h
        · exact x.bo b h
        · rw [h]; exact hO
      | _ => exact hA.elim
    · cases he
  · cases h
theorem ss_retN (r : RS W cs H O B σ ρ g) (x : EI W cs0 H0 B cs H O g) (h : ckS tb fs fr (m + 1) C st .retN = true) (he : evS1 (Z.ev tb cf n).e (Z.ev tb cf n).b ρ g .retN = some (so, g')) (q : SPost W fr cs0 H0 B cs H O g' D so) : sW X st D σ H := by
  simp only [ckS] at h
  split at h
  · cases he
    exact PS.w ps_retN (q .non H O cs (.refl _ _) (.refl _) x .non fun _ => trivial)
  · cases h
/-- what is shown of blocks, one level down -/
def SB (W : Wd) (tb : Tab) (fs : List Fd) (cf : CF) (d : Nat) (bv : BV) : Prop := ∀ (C : SC) (X : Cx) (m : Nat) (sts : List Stmt) (is : List S) (cs0 : List Addr) (H0 : Hp) (cs : List Addr) (H : Hp) (O B : Own) (σ : L2.St) (ρ : Env) (g : G) (so : SO) (g' : G) (fr : Bool) (D : Ends),
  GoS W tb fs cf d C X → ckB tb fs fr m C sts is = true → RS W cs H O B σ ρ g → EI W cs0 H0 B cs H O g → bv ρ g is = some (so, g') → SPost W fr cs0 H0 B cs H O g' D so → ssW X sts D σ H
theorem ss_ite {c : E} {a b : List S} (ib : SB W tb fs cf d (Z.ev tb cf n).b) (GO : GoS W tb fs cf d C X) (r : RS W cs H O B σ ρ g) (x : EI W cs0 H0 B cs H O g) (h : ckS tb fs fr (m + 1) C st (.ite c a b) = true) (he : evS1 (Z.ev tb cf n).e (Z.ev tb cf n).b ρ g (.ite c a b) = some (so, g')) (q : SPost W fr cs0 H0 B cs H O g' D so) : sW X st D σ H := by
  simp only [ckS] at h
  split at h
  · rename_i t y z p
    simp only [Bool.and_eq_true] at h
    obtain ⟨⟨h1, h2⟩, h3⟩ := h
    obtain ⟨k, g1, e1, he⟩ := bs_v he q
    refine PS.w (ps_if pt_w pss_w pss_w) ((sound_n n).2.1 C X m t c cs H O B σ ρ g g1 k _ GO.go h1 r (evC_v e1) fun H1 k1 c1 => ?_)
    cases k with
    | true =>
      rw [if_pos rfl]
      exact ib C X m y a cs0 H0 cs H1 O B σ ρ g1 so g' fr D GO h2 (r.keep k1 c1) (x.keep k1 c1) he (q.keep k1 r.cells.sub)
    | false =>
      rw [if_neg (by decide)]
      exact ib C X m z b cs0 H0 cs H1 O B σ ρ g1 so g' fr D GO h3 (r.keep k1 c1) (x.keep k1 c1) he (q.keep k1 r.cells.sub)
  · cases h
theorem ss_for {t : T} {it : It} {b : List S} (ib : SB W tb fs cf d (Z.ev tb cf n).b) (GO : GoS W tb fs cf d C X) (r : RS W cs H O B σ ρ g) (x : EI W cs0 H0 B cs H O g) (h : ckS tb fs fr (m + 1) C st (.for t it b) = true) (he : evS1 (Z.ev tb cf n).e (Z.ev tb cf n).b ρ g (.for t it b) = some (so, g')) (q : SPost W fr cs0 H0 B cs H O g' D so) : sW X st D σ H := by
  simp only [ckS] at h
  split at h
  · rename_i tg iter body p
    simp only [Bool.and_eq_true] at h
    obtain ⟨⟨⟨⟨h1, h2⟩, h3⟩, h4⟩, h5⟩ := h
    obtain ⟨its, g1, e1, he⟩ := bs_v he q
    refine PS.w (ps_for GO.ps GO.go.gx.calm pi_w pg_w pss_w (fold_of h3)) (it_ok (sound_n n).1 GO.go h1 r e1 fun J H1 A k1 c1 st n1 n2 n3 _ => ?_)
    have q1 := q.keep k1 r.cells.sub
    have r1 := r.keep k1 c1
    have x1 := x.keep k1 c1
    obtain ⟨Gd, Yd, w, s1, s2⟩ := st.ex
    have nA := n3 (by simpa using h2)
    refine for_it w (fun i σ' H' => ∃ ρi gi Oi csi, Ext H1 O H' Oi ∧ Pre cs csi ∧ RS W csi H' Oi B σ' ρi gi ∧ EI W cs0 H0 B csi H' Oi gi ∧ forGo (Z.ev tb cf n).b t b ρi gi (its.drop i) = some (so, g'))
      ⟨ρ, g1, O, cs, .refl _ _, .refl _, r1, x1, by rw [List.drop_zero]; exact he⟩ (fun i σ' H' _ ⟨ρi, gi, Oi, csi, ex, _⟩ => s1 H' fun a ha o e => (ex.at_ a o e (nA a ha)).1) ?_ (fun σ' H' ⟨ρi, gi, Oi, csi, ex, pr, ri, xi, e⟩ => ?_)
    · intro i xv σ' H' H2 hi ⟨ρi, gi, Oi, csi, ex, pr, ri, xi, e⟩ y
      obtain ⟨pv, hp, hd⟩ := drop_at hi
      obtain ⟨rp, hH⟩ := s2 i pv xv H' H2 csi Oi hp pr ex ri.dom y
      have kH : Keep csi H' H2 := by
        rcases hH with rfl | ⟨T, o, hT, rfl⟩
        · exact .refl _ _
        · exact Keep.new hT
      have cH : CellsOk W csi H2 Oi gi := by
        rcases hH with rfl | ⟨T, o, hT, rfl⟩
        · exact ri.cells
        · exact ri.cells.new hT
      have r2 := ri.keep kH cH
      have x2 := xi.keep kH cH
      have ex2 := ex.trans (kH.ext ri.cells.sub)
      rw [hd] at e
      simp only [forGo] at e
      split at e
      · cases e
      · rename_i ρ' hb
        refine tgt_ok GO.go t h4 rp r2 hb fun σ3 r3 _ => ?_
        split at e
        · rename_i ρ2 g2 hbd
          exact ib C X m body b cs0 H0 csi H2 Oi B σ3 ρ' gi (.nx ρ2) g2 fr _ GO h5 r3 x2 hbd fun σ4 H4 O4 cs4 a1 a2 a3 a4 => ⟨ρ2, g2, O4, cs4, ex2.trans a1, pr.trans a2, a3, a4, e⟩
        · rename_i ρ2 g2 hbd
          exact ib C X m body b cs0 H0 csi H2 Oi B σ3 ρ' gi (.ct ρ2) g2 fr _ GO h5 r3 x2 hbd fun σ4 H4 O4 cs4 a1 a2 a3 a4 => ⟨ρ2, g2, O4, cs4, ex2.trans a1, pr.trans a2, a3, a4, e⟩
        · rename_i ρ2 g2 hbd
          cases e
          exact ib C X m body b cs0 H0 csi H2 Oi B σ3 ρ' gi (.bk ρ2) g' fr _ GO h5 r3 x2 hbd fun σ4 H4 O4 cs4 a1 a2 a3 a4 => q1 σ4 H4 O4 cs4 (ex2.trans a1) (pr.trans a2) a3 a4
        · rename_i o n1 n2 n3
          have q2 := q1.step ex2 pr
          refine ib C X m body b cs0 H0 csi H2 Oi B σ3 ρ' gi so g' fr _ GO h5 r3 x2 e ?_
          cases so with
          | nx ρ2 => exact absurd e (n1 ρ2 g')
          | ct ρ2 => exact absurd e (n2 ρ2 g')
          | bk ρ2 => exact absurd e (n3 ρ2 g')
          | rt v => exact q2
          | ex _ _ => exact q2
    · rw [List.drop_length] at e
      cases e
      exact q1 σ' H' Oi csi ex pr ri xi
  · cases h
theorem ss_whl {c : E} {b : List S} (ib : SB W tb fs cf d (Z.ev tb cf n).b) (GO : GoS W tb fs cf d C X) (r : RS W cs H O B σ ρ g) (x : EI W cs0 H0 B cs H O g) (h : ckS tb fs fr (m + 1) C st (.whl c b) = true) (he : evS1 (Z.ev tb cf n).e (Z.ev tb cf n).b ρ g (.whl c b) = some (so, g')) (q : SPost W fr cs0 H0 B cs H O g' D so) : sW X st D σ H := by
  simp only [ckS] at h
  split at h
  · rename_i t body p
    simp only [Bool.and_eq_true] at h
    have he : whlGo (Z.ev tb cf n).e (Z.ev tb cf n).b c b TURNS ρ g = some (so, g') := he
    generalize TURNS = N at he
    refine PS.w (ps_while GO.ps pt_w pss_w) ⟨fun k σ' H' => ∃ ρi gi Oi csi, Ext H O H' Oi ∧ Pre cs csi ∧ RS W csi H' Oi B σ' ρi gi ∧ EI W cs0 H0 B csi H' Oi gi ∧ whlGo (Z.ev tb cf n).e (Z.ev tb cf n).b c b k ρi gi = some (so, g'), ⟨N, ρ, g, O, cs, .refl _ _, .refl _, r, x, he⟩, ?_⟩
    rintro k σ' H' ⟨ρi, gi, Oi, csi, ex, pr, ri, xi, e⟩
    cases k with
    | zero => cases e
    | succ k =>
      simp only [whlGo] at e
      obtain ⟨v, g1, e1, e⟩ := bs_v e (q.step ex pr)
      refine (sound_n n).2.1 C X m t c csi H' Oi B σ' ρi gi g1 v _ GO.go h.1 ri (evC_v e1) fun H1 k1 c1 => ?_
      have r1 := ri.keep k1 c1
      have x1 := xi.keep k1 c1
      have ex1 := ex.trans (k1.ext ri.cells.sub)
      have q1 := q.step ex1 pr
      cases v with
      | false =>
        cases e
        rw [if_neg (by decide)]
        exact q1 σ' H1 Oi csi (.refl _ _) (.refl _) r1 x1
      | true =>
        rw [if_pos rfl]
        refine ⟨fun σ4 H4 => ∃ ρi gi Oi csi, Ext H O H4 Oi ∧ Pre cs csi ∧ RS W csi H4 Oi B σ4 ρi gi ∧ EI W cs0 H0 B csi H4 Oi gi ∧ whlGo (Z.ev tb cf n).e (Z.ev tb cf n).b c b k ρi gi = some (so, g'), fun σ4 H4 z => ⟨k, Nat.lt_succ_self k, z⟩, ?_⟩
        simp only at e
        split at e
        · rename_i ρ2 g2 hbd
          exact ib C X m body b cs0 H0 csi H1 Oi B σ' ρi g1 (.nx ρ2) g2 fr _ GO h.2 r1 x1 hbd fun σ4 H4 O4 cs4 a1 a2 a3 a4 => ⟨ρ2, g2, O4, cs4, ex1.trans a1, pr.trans a2, a3, a4, e⟩
        · rename_i ρ2 g2 hbd
          exact ib C X m body b cs0 H0 csi H1 Oi B σ' ρi g1 (.ct ρ2) g2 fr _ GO h.2 r1 x1 hbd fun σ4 H4 O4 cs4 a1 a2 a3 a4 => ⟨ρ2, g2, O4, cs4, ex1.trans a1, pr.trans a2, a3, a4, e⟩
        · rename_i ρ2 g2 hbd
          cases e
          exact ib C X m body b cs0 H0 csi H1 Oi B σ' ρi g1 (.bk ρ2) g' fr _ GO h.2 r1 x1 hbd fun σ4 H4 O4 cs4 a1 a2 a3 a4 => q1 σ4 H4 O4 cs4 a1 a2 a3 a4
        · rename_i o n1 n2 n3
          refine ib C X m body b cs0 H0 csi H1 Oi B σ' ρi g1 so g' fr _ GO h.2 r1 x1 e ?_
          cases so with
          | nx ρ2 => exact absurd e (n1 ρ2 g')
          | ct ρ2 => exact absurd e (n2 ρ2 g')
          | bk ρ2 => exact absurd e (n3 ρ2 g')
          | rt v => exact q1
          | ex _ _ => exact q1
  · cases h
theorem ss_all (ib : SB W tb fs cf d (Z.ev tb cf n).b) {i : S} (GO : GoS W tb fs cf d C X) (r : RS W cs H O B σ ρ g) (x : EI W cs0 H0 B cs H O g) (h : ckS tb fs fr m C st i = true) (he : evS1 (Z.ev tb cf n).e (Z.ev tb cf n).b ρ g i = some (so, g')) (q : SPost W fr cs0 H0 B cs H O g' D so) : sW X st D σ H := by
  cases m with
  | zero => simp [ckS] at h
  | succ m =>
    cases i with
    | set own i a => exact ss_set GO r x h he q
    | unp t a => exact ss_unp GO r x h he q
    | par sw l => exact ss_par GO r x h he q
    | sub i ix a => exact ss_sub GO r x h he q
    | app i a => exact ss_app GO r x h he q
    | rem i a => exact ss_rem GO r x h he q
    | ex a => exact ss_ex GO r x h he q
    | ret a => exact ss_ret GO r x h he q
    | rto i => exact ss_rto GO r x h he q
    | retN => exact ss_retN r x h he q
    | ite c a b => exact ss_ite ib GO r x h he q
    | «for» t it b => exact ss_for ib GO r x h he q
    | whl c b => exact ss_whl ib GO r x h he q
    | pas =>
      simp only [ckS] at h
      split at h
      · cases he
        exact PS.w ps_pass (q σ H O cs (.refl _ _) (.refl _) r x)
      · cases h
    | brk =>
      simp only [ckS] at h
      split at h
      · cases he
        exact PS.w ps_break (q σ H O cs (.refl _ _) (.refl _) r x)
      · cases h
    | cnt =>
      simp only [ckS] at h
      split at h
      · cases he
        exact PS.w ps_continue (q σ H O cs (.refl _ _) (.refl _) r x)
      · cases h
    | rai c =>
      cases he
      exact q.elim
    | frz i => simp [ckS] at h
    | mkc i => simp [ckS] at h
theorem ckB_at {i : S} {is : List S} {sts : List Stmt} (h : ckB tb fs fr (m + 1) C sts (i :: is) = true) : ((∃ k, i = .frz k) ∧ ckB tb fs fr m C sts is = true) ∨ ((∃ k, i = .mkc k) ∧ ckB tb fs fr m C sts is = true) ∨ ∃ st sts', sts = st :: sts' ∧ ckS tb fs fr m C st i = true ∧ ckB tb fs fr m C sts' is = true := by
  cases sts with
  | nil => cases i <;> first | exact .inl ⟨⟨_, rfl⟩, by simpa only [ckB] using h⟩ | exact .inr (.inl ⟨⟨_, rfl⟩, by simpa only [ckB] using h⟩) | (simp [ckB] at h; done)
  | cons st sts =>
    cases i <;> first | exact .inl ⟨⟨_, rfl⟩, by simpa only [ckB] using h⟩ | exact .inr (.inl ⟨⟨_, rfl⟩, by simpa only [ckB] using h⟩) | exact .inr (.inr ⟨st, sts, rfl, by simpa only [ckB, Bool.and_eq_true] using h⟩)
theorem sb_step (ib : SB W tb fs cf d (Z.ev tb cf n).b) : SB W tb fs cf d (evB1 (evS1 (Z.ev tb cf n).e (Z.ev tb cf n).b)) := by
  intro C X m sts is
  induction is generalizing m sts with
  | nil =>
    intro cs0 H0 cs H O B σ ρ g so g' fr D GO h r x he q
    cases m with
    | zero => simp [ckB] at h
    | succ m =>
      simp only [ckB] at h
      cases he
      cases sts with
      | nil => exact PSs.w pss_nil (q σ H O cs (.refl _ _) (.refl _) r x)
      | cons _ _ => cases h
  | cons i is ihl =>
    intro cs0 H0 cs H O B σ ρ g so g' fr D GO h r x he q
    cases m with
    | zero => simp [ckB] at h
    | succ m =>
      simp only [evB1] at he
      rcases ckB_at h with ⟨⟨k, rfl⟩, h⟩ | ⟨⟨k, rfl⟩, h⟩ | ⟨st, sts', rfl, h1, h2⟩
      · simp only [evS1] at he
        cases hρ : ρ[k]? with
        | none =>
          simp only [hρ] at he
          cases he
        | some sl =>
          cases sl with
          | no =>
            simp only [hρ] at he
            exact ihl m sts cs0 H0 cs H O B σ ρ g so g' fr D GO h r x he q
          | val v =>
            simp only [hρ] at he
            exact ihl m sts cs0 H0 cs H O B σ ρ g so g' fr D GO h r x he q
          | own v =>
            simp only [hρ] at he
            obtain ⟨a, hσ, hO, hB, hc, hA⟩ := r.at_ _ _ hρ
            have less : Ext H O H (fun b => O b ∧ b ≠ a) := Ext.less fun _ h => h.1
            exact ihl m sts cs0 H0 cs H _ B σ _ g so g' fr D GO h (r.freeze hρ hσ hO hB hc hA) (x.drop hB hc) he (q.step less (.refl _))
      · simp only [evS1] at he
        cases hρ : ρ[k]? with
        | none =>
          simp only [hρ] at he
          cases he
        | some sl =>
          cases sl with
          | no =>
            simp only [hρ] at he
            cases he
          | val v =>
            simp only [hρ] at he
            cases he
          | own v =>
            simp only [hρ] at he
            cases hf : flatC v with
            | false =>
              rw [hf] at he
              cases he
            | true =>
              rw [hf] at he
              obtain ⟨a, hσ, hO, hB, hc, hA⟩ := r.at_ _ _ hρ
              cases v with
              | lst l =>
                have x' := x.cell hO hB hc hA hf
                have pr : Pre cs (cs ++ [a]) := fun k b e => by
                  rw [List.getElem?_append_left (List.getElem?_eq_some_iff.mp e).1]; exact e
                exact ihl m sts cs0 H0 (cs ++ [a]) H O B σ _ _ so g' fr D GO h (r.celled hρ hσ x'.cells) x' he (q.step (.refl _ _) pr)
              | _ => exact hA.elim
      · refine PSs.w (pss_cons ps_w pss_w) ?_
        split at he
        · rename_i ρ' g1 e1
          exact ss_all ib GO r x h1 e1 fun σ' H' O' cs' a1 a2 a3 a4 => ihl m sts' cs0 H0 cs' H' O' B σ' ρ' g1 so g' fr D GO h2 a3 a4 he (q.step a1 a2)
        · rename_i o e1
          refine ss_all ib GO r x h1 he ?_
          cases so with
          | nx ρ2 => exact absurd he (e1 ρ2 g')
          | bk ρ2 => exact q
          | ct ρ2 => exact q
          | rt v => exact q
          | ex _ _ => exact q
theorem sb_n : ∀ n, SB W tb fs cf d (Z.ev tb cf n).b
  | 0 => fun _ _ _ _ _ _ _ _ _ _ _ _ _ _ _ _ _ _ _ _ _ _ h => by cases h
  | n + 1 => sb_step (sb_n n)
end
end Z
end

section
set_option Elab.async false
set_option linter.all false
set_option maxRecDepth 100000
set_option maxHeartbeats 1000000
/-! Z20: defs, and the law's end. -/
namespace Z
open PySem L2
theorem lookup_zip {ns : List Str} (hn : ns.Nodup) : ∀ {us : List Value}, us.length = ns.length → ∀ n ∈ ns, ((ns.zip us).lookup n).isSome = true := by
  induction ns with
  | nil => intro us _ n h; cases h
  | cons x ns ih =>
    intro us hl n h
    cases us with
    | nil => cases hl
    | cons u us =>
      rw [List.zip_cons_cons, List.lookup_cons]
      by_cases e : (n == x) = true
      · rw [e]; rfl
      · rw [Bool.not_eq_true] at e
        rw [e]
        rcases List.mem_cons.mp h with h | h
        · rw [h, beq_self_eq_true] at e; cases e
        · exact ih (List.nodup_cons.mp hn).2 (Nat.succ.inj hl) n h
theorem zip_filterMap {ns : List Str} (hn : ns.Nodup) : ∀ {us : List Value}, us.length = ns.length → (ns.filterMap fun n => ((ns.zip us).lookup n).map (n, ·)) = ns.zip us := by
  induction ns with
  | nil => intro us _; rfl
  | cons x ns ih =>
    intro us hl
    cases us with
    | nil => cases hl
    | cons u us =>
      obtain ⟨h1, h2⟩ := List.nodup_cons.mp hn
      rw [List.zip_cons_cons, List.filterMap_cons]
      have e : ((x, u) :: ns.zip us).lookup x = some u := by rw [List.lookup_cons, beq_self_eq_true]
      rw [e]
      show (x, u) :: _ = _
      congr 1
      have cg : ∀ (l : List Str), (∀ n ∈ l, n ≠ x) → (l.filterMap fun n => (((x, u) :: ns.zip us).lookup n).map (n, ·)) = l.filterMap fun n => ((ns.zip us).lookup n).map (n, ·) := by
        intro l
        induction l with
        | nil => intro _; rfl
        | cons n l il =>
          intro h
          have ne : (n == x) = false := beq_eq_false_iff_ne.mpr (h n List.mem_cons_self)
          rw [List.filterMap_cons, List.filterMap_cons, List.lookup_cons, ne, il fun n' h' => h n' (List.mem_cons_of_mem _ h')]
      rw [cg ns fun n hn' z => h1 (z ▸ hn')]
      exact ih h2 (Nat.succ.inj hl)
theorem bind_plain {x qual : Str} {as : List Arg} {body : List Stmt} {scope : Scope} {kV doc pm : Value} {an : Option Addr} {cdv ct : Value} (hn : (as.map (·.arg)).Nodup) {us : List Value} (hl : us.length = (as.map (·.arg)).length) :
    bindArgs (PySem.W.fnOf x qual ⟨[], as, none, [], [], none, []⟩ body scope .none kV doc pm an cdv ct) ⟨us, []⟩ = pure ((as.map (·.arg)).zip us) := by
  have e1 : seqItems? Value.none = pure none := rfl
  have h1 : ((as.map (·.arg)).filter fun n => (((as.map (·.arg)).zip us).lookup n).isNone) = [] := by
    rw [List.filter_eq_nil_iff]
    intro n h z
    have := lookup_zip hn hl n h
    rw [Option.isNone_iff_eq_none] at z
    rw [z] at this; cases this
  unfold bindArgs
  simp only [PySem.W.fnOf, e1, pure_bind, List.map_nil, List.nil_append, List.forIn_nil, List.append_nil, Option.getD_none, List.drop_nil, List.length_nil, Nat.sub_zero, Nat.zero_sub, List.drop_length, List.take_length, List.zip_nil_left, List.zip_nil_right]
  refine (if_neg (by simp [hl])).trans ?_
  rw [h1]
  refine (if_neg (by simp)).trans ?_
  refine (if_neg (by simp)).trans ?_
  rw [zip_filterMap hn hl]
def parsOf (f : Fd) : List Str := f.names.take f.par
abbrev CKF : Nat := 300
/-- the check of a def -/
def ckFd (tb : Tab) (fs : List Fd) (f : Fd) (a : Arguments) (body : List Stmt) (scope : Scope) : Bool := match a with
  | ⟨[], as, none, [], [], none, []⟩ => decide (as.map (·.arg) = parsOf f) && decide (f.par ≤ f.names.length) && decide f.names.Nodup && decide (scope.kind = .function) && !scope.isCoroutine && !scope.isGenerator &&
      (parsOf f).all (fun x => loc scope x) && scope.names.all (fun y => !decide (y.2 = .free)) && ckB tb fs f.fresh CKF ⟨f.names, scope, none⟩ body f.body
  | _ => false
/-- the module as the head leaves it -/
structure Mdl (W : Wd) (tb : Tab) (fs : List Fd) (mg : Str → Option Value) : Prop where
  nf : W.nf = fs.length
  df : ∀ (k : Nat) (f : Fd), fs[k]? = some f → mg f.name = some (.ref (W.fa k)) ∧ ∃ (x qual : Str) (params : Arguments) (body : List Stmt) (scope : Scope) (fd : FuncData), FunD W.K x qual params body scope [] [] (W.fa k) fd ∧ ckFd tb fs f params body scope = true
  gl : ∀ (k : Nat) (x : Str) (v : PV), tb.gl[k]? = some (x, v) → ∃ u w, mg x = some u ∧ RelV w u ∧ ∀ cs H O, Rep W cs H O w v
  bl : ∀ x ∈ bnames, mg x = none
abbrev CXN : CXT := fun _ _ _ _ _ _ => False
theorem ckFd_ok {tb : Tab} {fs : List Fd} {f : Fd} {a : Arguments} {body : List Stmt} {scope : Scope} (h : ckFd tb fs f a body scope = true) :
    ∃ as : List Arg, a = ⟨[], as, none, [], [], none, []⟩ ∧ as.map (·.arg) = parsOf f ∧ (parsOf f).length = f.par ∧ FnScope f.names (parsOf f) scope ∧ ckB tb fs f.fresh CKF ⟨f.names, scope, none⟩ body f.body = true := by
  unfold ckFd at h
  split at h
  · rename_i as
    simp only [Bool.and_eq_true] at h
    obtain ⟨⟨⟨⟨⟨⟨⟨⟨h1, h2⟩, h3⟩, h4⟩, h5⟩, h6⟩, h7⟩, h8⟩, h9⟩ := h
    have h2 := of_decide_eq_true h2
    have hl : (parsOf f).length = f.par := by
      unfold parsOf
      rw [List.length_take]
      omega
    refine ⟨as, rfl, of_decide_eq_true h1, hl, ⟨of_decide_eq_true h4, by simpa using h5, by simpa using h6, of_decide_eq_true h3, by rw [hl]; rfl, fun x hx => ?_, fun y hy e => ?_⟩, h9⟩
    · rw [List.all_eq_true] at h7
      exact loc_of (h7 x hx)
    · rw [List.all_eq_true] at h8
      have := h8 y hy
      rw [decide_eq_true e] at this
      cases this
  · cases h
section
variable {W : Wd} {tb : Tab} {fs : List Fd} {P : Program} {w : World} {mg : Str → Option Value} {base : Heap}
theorem runF_v {d k : Nat} {ps : List PV} {g g' : G} {o : PV} (h : runF tb fs (d + 1) k ps g = some (.v o, g')) : ∃ f, fs[k]? = some f ∧ ps.length = f.par ∧ endF g.length ((Z.ev tb (runF tb fs d) NEST).b (startE f.names.length ps) g f.body) = some (.v o, g') := by
  unfold runF at h
  split at h
  · cases h
  · rename_i f hf
    split at h
    · rename_i hl
      exact ⟨f, hf, hl, h⟩
    · cases h
theorem endF_v {n : Nat} {r : Option (SO × G)} {v : PV} {g' : G} (h : endF n r = some (.v v, g')) : ∃ g1, g' = g1.take n ∧ ((r = some (.rt v, g1) ∧ (g1.length = n ∨ flatP v = true)) ∨ ∃ ρ, r = some (.nx ρ, g1) ∧ v = .non) := by
  unfold endF at h
  split at h
  · split at h
    · rename_i hc
      cases h
      rw [Bool.or_eq_true, decide_eq_true_eq] at hc
      exact ⟨_, rfl, .inl ⟨rfl, hc⟩⟩
    · cases h
  · cases h
    exact ⟨_, rfl, .inr ⟨_, rfl, rfl⟩⟩
  · cases h
  · cases h
theorem start_at {cs : List Addr} {H : Hp} {O B : Own} : ∀ {vs : List V} {ps : List PV} (n : Nat), Reps W cs H O vs ps → ∀ (i : Nat) (s : Sl), (ps.map Sl.val ++ List.replicate n Sl.no)[i]? = some s → SlOk W cs H O B (vs.map some ++ List.replicate n none)[i]? s ∧ ∀ p, s ≠ .own p
  | _, _, n, .nil, i, s, h => by
    have h : (List.replicate n Sl.no)[i]? = some s := h
    have : s = .no := by
      rw [List.getElem?_replicate] at h
      split at h
      · cases h; rfl
      · cases h
    subst this
    exact ⟨trivial, fun p z => by cases z⟩
  | _, _, n, .cons h t, 0, s, e => by
    cases (show some _ = some s from e)
    exact ⟨⟨_, rfl, h⟩, fun p z => by cases z⟩
  | _, _, n, .cons h t, i + 1, s, e => start_at n t i s e
/-- the cells behind the call -/
theorem cells_end {cs cs' : List Addr} {H' : Hp} {O' B : Own} {g' : G} {n : Nat} (c : CellsOk W cs' H' O' g') (pr : Pre cs cs') (hn : cs.length = n) (hB : ∀ a ∈ cs, B a) (nd : cs.Nodup) : n ≤ g'.length ∧ CellsOk W cs H' B (g'.take n) := by
  have hle : cs.length ≤ cs'.length := by
    rcases Nat.lt_or_ge cs'.length cs.length with z | z
    · have h1 := pr cs'.length cs[cs'.length] (List.getElem?_eq_getElem z)
      have := (List.getElem?_eq_some_iff.mp h1).1
      omega
    · exact z
  have hg : n ≤ g'.length := by rw [← c.len, ← hn]; exact hle
  refine ⟨hg, by rw [List.length_take, hn]; omega, nd, hB, fun k a p h1 h2 => ?_, fun k p h2 => ?_⟩
  · have hk := (List.getElem?_eq_some_iff.mp h1).1
    rw [List.getElem?_take_of_lt (by omega)] at h2
    have h := c.con k a p (pr k a h1) h2
    have f := c.fl k p h2
    cases p with
    | lst l =>
      obtain ⟨xs, e1, e2, e3⟩ := h
      exact ⟨xs, e1, e2, flat_reps e3 f⟩
    | _ => exact h
  · have hk : k < n := by
      have := (List.getElem?_eq_some_iff.mp h2).1
      rw [List.length_take] at this
      omega
    rw [List.getElem?_take_of_lt hk] at h2
    exact c.fl k p h2
theorem pre_eq {cs cs' : List Addr} (pr : Pre cs cs') (h : cs'.length = cs.length) : cs' = cs := by
  apply List.ext_getElem?
  intro k
  rcases Nat.lt_or_ge k cs.length with z | z
  · rw [pr k cs[k] (List.getElem?_eq_getElem z), List.getElem?_eq_getElem z]
  · rw [List.getElem?_eq_none (by omega), List.getElem?_eq_none z]
theorem flat_rep {cs cs' : List Addr} {H H' : Hp} {O O' : Own} {z : V} {p : PV} (h : Rep W cs H O z p) (f : flatP p = true) : Rep W cs' H' O' z p := by
  cases h <;> first | exact .non | exact .bl _ | exact .int _ | exact .str _ | cases f
theorem new_flat {cs' : List Addr} {H0 H' : Hp} {B : Own} {z : V} {p : PV} (f : flatP p = true) : NewV W cs' H0 H' B z p := by
  cases p <;> first | trivial | cases f
theorem fn_one (M : Mdl W tb fs mg) (d : Nat) (ih : FnsOk W fs (runF tb fs d) d P w mg base) {k : Nat} {f : Fd} {x qual : Str} {params : Arguments} {body : List Stmt} {scope : Scope} {fd : FuncData} (hf : fs[k]? = some f) (F : FunD W.K x qual params body scope [] [] (W.fa k) fd) (hc : ckFd tb fs f params body scope = true) :
    FnOk P w W.K mg base CXN (d + 1) (W.fa k) fd (parsOf f) (spF W (runF tb fs (d + 1)) k f) := by
  obtain ⟨as, rfl, has, hpl, S, hb⟩ := ckFd_ok hc
  refine F.ok S (fun vs H Q E h => ?_) fun cdv A outer s H vs Q E hr h => ⟨ssW _ body, pss_w, ?_⟩
  · obtain ⟨cs, O, ps, g, g', pv, h1, h2, h3, _⟩ := h
    rw [h2.length, h3, hpl]
  · obtain ⟨cs, O, ps, g, g', pv, h1, h2, h3, hcl, hdom, q⟩ := h
    obtain ⟨f', hf', hpn, he⟩ := runF_v h1
    rw [hf] at hf'
    cases hf'
    obtain ⟨g1, rfl, hr1⟩ := endF_v he
    have hN : f.par ≤ f.names.length := by
      rw [← hpl]
      unfold parsOf
      rw [List.length_take]
      omega
    have lvs : vs.length = ps.length := h2.length
    -- the state at the entry
    have r0 : RS W cs H O O (L2.start f.names vs) (startE f.names.length ps) g := by
      have e1 : L2.start f.names vs = vs.map some ++ List.replicate (f.names.length - ps.length) none := by
        unfold L2.start; rw [lvs]
      rw [e1]
      unfold startE
      refine ⟨by simp [lvs], fun i sl e => (start_at _ h2 i sl e).1, fun i j p q a _ e _ _ _ => ?_, hcl, hdom, fun _ h => h⟩
      exact (start_at (B := O) _ h2 i _ e).2 p rfl
    have x0 : EI W cs H O cs H O g := ⟨hcl, fun _ h => h, hdom, fun _ h => .inl h, fun _ h => .inl h, fun _ _ _ _ e => e, fun _ _ e _ => e, fun _ o e => ⟨o, e⟩, .refl _, hcl.sub⟩
    have GO : GoS W tb fs (runF tb fs d) d ⟨f.names, scope, none⟩ (cxOf CXN P w W.K mg base f.names qual scope (W.fa k) cdv A outer s H E) :=
      { go := ⟨⟨rfl, rfl, by have := hr.un; show (A.deeper (PyProof.Rows.envOfC qual scope s.heap.objs.size (W.fa k) cdv)).units + 200 < cLine; omega⟩, rfl, S.nd, rfl, fun _ _ => .inl rfl, M.gl, M.bl, hr, ih⟩
        ps := passes_of rfl
        kd := S.kind }
    -- the end
    have fin : ∀ (z : V) (H' : Hp) (O' : Own) (cs' : List Addr), EI W cs H O cs' H' O' g1 → Rep W cs' H' O' z pv → (f.fresh = true → NewV W cs' H H' O z pv) → (g1.length = g.length ∨ flatP pv = true) → Q z H' := by
      intro z H' O' cs' x1 r1 n1 hg
      obtain ⟨hle, c1⟩ := cells_end (B := O) x1.cells x1.pre hcl.len hcl.sub hcl.nd
      have kp : Keep cs H H' := ⟨fun a o e n => by
        by_cases hO : O a
        · exact x1.kb a hO n o e
        · exact x1.ex a o e hO, x1.dm⟩
      have less : Ext H' O' H' O := Ext.less x1.bo
      rcases hg with hg | hg
      · have e : cs' = cs := pre_eq x1.pre (by rw [x1.cells.len, hg, hcl.len])
        subst e
        exact q z H' kp c1 (r1.ext (.refl _) less) n1
      · exact q z H' kp c1 (flat_rep r1 hg) fun _ => new_flat hg
    rcases hr1 with ⟨hr1, hg⟩ | ⟨ρ, hr1, rfl⟩
    · exact sb_n NEST _ _ CKF body f.body cs H cs H O O _ _ g (.rt pv) g1 f.fresh _ GO hb r0 x0 hr1 fun z H' O' cs' _ _ x1 r1 n1 => fin z H' O' cs' x1 r1 n1 hg
    · exact sb_n NEST _ _ CKF body f.body cs H cs H O O _ _ g (.nx ρ) g1 f.fresh _ GO hb r0 x0 hr1 fun σ' H' O' cs' _ _ r1 x1 => fin .non H' O' cs' x1 .non (fun _ => trivial) (.inr rfl)
theorem fn_step (M : Mdl W tb fs mg) (d : Nat) (ih : FnsOk W fs (runF tb fs d) d P w mg base) : FnsOk W fs (runF tb fs (d + 1)) (d + 1) P w mg base where
  no := fun k ps g g' pv h => by
    obtain ⟨f, h1, h2, _⟩ := runF_v h
    exact ⟨f, h1, h2⟩
  at_ := fun k f hf => by
    obtain ⟨hm, x, qual, params, body, scope, fd, F, hc⟩ := M.df k f hf
    obtain ⟨as, rfl, has, hpl, S, hb⟩ := ckFd_ok hc
    refine ⟨by rw [M.nf]; exact (List.getElem?_eq_some_iff.mp hf).1, hm, F.kp, fd, parsOf f, hpl, ?_, ?_⟩
    · exact fn_one M d ih hf F hc
    · refine F.bindsN fun kV doc pm an cdv ct us hl => ?_
      rw [← has]
      exact bind_plain (by rw [has]; exact S.nd.sublist (List.take_sublist _ _)) (by rw [has]; exact hl)
theorem fns_ok (M : Mdl W tb fs mg) : ∀ d, FnsOk W fs (runF tb fs d) d P w mg base
  | 0 => {
    no := fun k ps g g' pv h => by cases h
    at_ := fun k f hf => by
      obtain ⟨hm, x, qual, params, body, scope, fd, F, hc⟩ := M.df k f hf
      obtain ⟨as, rfl, has, hpl, S, hb⟩ := ckFd_ok hc
      refine ⟨by rw [M.nf]; exact (List.getElem?_eq_some_iff.mp hf).1, hm, F.kp, fd, parsOf f, hpl, ⟨fun vs H Q E h => ?_, fun A outer s H args us vs Q E hr e0 hbd hv h => ?_⟩, F.bindsN fun kV doc pm an cdv ct us hl => ?_⟩
      · obtain ⟨cs, O, ps, g, g', pv, h1, _⟩ := h
        cases h1
      · obtain ⟨cs, O, ps, g, g', pv, h1, _⟩ := h
        cases h1
      · rw [← has]
        exact bind_plain (by rw [has]; exact S.nd.sublist (List.take_sublist _ _)) (by rw [has]; exact hl) }
  | d + 1 => fn_step M d (fns_ok M d)
end
end Z
end

section
set_option Elab.async false
set_option linter.all false
set_option maxRecDepth 100000
set_option maxHeartbeats 1000000
/-! Z21: from the head's facts to the law. -/
namespace Z
open PySem L2
def hasGlo (fa : List He.Fa) (x : Str) : Bool := fa.any fun
  | .glo y => decide (y = x)
  | _ => false
def hasFree (fa : List He.Fa) (x : Str) : Bool := fa.any fun
  | .free y => decide (y = x)
  | _ => false
def hasInt (fa : List He.Fa) (x : Str) (i : Int) : Bool := fa.any fun
  | .int y j => decide (y = x) && decide (j = i)
  | _ => false
def ckDefs (tb : Tab) (fs : List Fd) (fa : List He.Fa) : List Fd → List He.DefD → Bool
  | [], [] => true
  | f :: r, d :: ds => decide (d.at_ = (f.name, none)) && d.dfl.isEmpty && d.kwd.isEmpty && hasGlo fa f.name && ckFd tb fs f d.params d.body d.scope && ckDefs tb fs fa r ds
  | _, _ => false
def ckAll (tb : Tab) (fs : List Fd) (fa : List He.Fa) (ds : List He.DefD) : Bool :=
  ckDefs tb fs fa fs ds && bnames.all (hasFree fa) && tb.gl.all (fun p => match p.2 with
    | .int i => hasInt fa p.1 i
    | _ => false)
section
variable {fa : List He.Fa} {ds : List He.DefD} {K : PySem.W.Frag} {h : Heap} {mg : Str → Option Value}
theorem fact_mem (c : He.SaysD fa ds K) {f : He.Fa} (hm : f ∈ fa) : f.ok K = true := by
  obtain ⟨i, hi⟩ := List.getElem?_of_mem hm
  exact c.fact i hi
theorem glo_of (X : K.In h) (G : h.Ns mainGlobals mg) (c : He.SaysD fa ds K) {x : Str} (hx : hasGlo fa x = true) : mg x = some (.ref (He.ga K x)) := by
  unfold hasGlo at hx
  rw [List.any_eq_true] at hx
  obtain ⟨f, hm, e⟩ := hx
  cases f with
  | glo y =>
    have e : y = x := of_decide_eq_true e
    subst e
    exact He.glo_ok X G (fact_mem c hm)
  | _ => cases e
theorem free_of (X : K.In h) (G : h.Ns mainGlobals mg) (c : He.SaysD fa ds K) {x : Str} (hx : hasFree fa x = true) : mg x = none := by
  unfold hasFree at hx
  rw [List.any_eq_true] at hx
  obtain ⟨f, hm, e⟩ := hx
  cases f with
  | free y =>
    have e : y = x := of_decide_eq_true e
    subst e
    exact He.free_ok X G (fact_mem c hm)
  | _ => cases e
theorem int_of (X : K.In h) (G : h.Ns mainGlobals mg) (c : He.SaysD fa ds K) {x : Str} {i : Int} (hx : hasInt fa x i = true) : ∃ t, mg x = some (.int i t) := by
  unfold hasInt at hx
  rw [List.any_eq_true] at hx
  obtain ⟨f, hm, e⟩ := hx
  cases f with
  | int y j =>
    have e : (decide (y = x) && decide (j = i)) = true := e
    rw [Bool.and_eq_true] at e
    have e1 : y = x := of_decide_eq_true e.1
    have e2 : j = i := of_decide_eq_true e.2
    subst e1 e2
    exact He.int_ok X G (fact_mem c hm)
  | _ => cases e
theorem ckDefs_at {tb : Tab} {fs : List Fd} : ∀ {r : List Fd} {es : List He.DefD} {k : Nat} {f : Fd}, ckDefs tb fs fa r es = true → r[k]? = some f → ∃ d, es[k]? = some d ∧ d.at_ = (f.name, none) ∧ d.dfl = [] ∧ d.kwd = [] ∧ hasGlo fa f.name = true ∧ ckFd tb fs f d.params d.body d.scope = true
  | [], _, _, _, _, h => by simp at h
  | _ :: _, [], _, _, h, _ => by simp [ckDefs] at h
  | f0 :: r, d :: ds, 0, f, h, e => by
    cases (show some f0 = some f from e)
    simp only [ckDefs, Bool.and_eq_true] at h
    obtain ⟨⟨⟨⟨⟨h1, h2⟩, h3⟩, h4⟩, h5⟩, h6⟩ := h
    exact ⟨d, rfl, of_decide_eq_true h1, List.isEmpty_iff.mp h2, List.isEmpty_iff.mp h3, h4, h5⟩
  | f0 :: r, d :: ds, k + 1, f, h, e => by
    simp only [ckDefs, Bool.and_eq_true] at h
    exact ckDefs_at (k := k) h.2 e
/-- the module -/
def wdOf (K : PySem.W.Frag) (fs : List Fd) : Wd := ⟨K, fun k => He.ga K ((fs[k]?).elim "" (·.name)), fs.length⟩
theorem mdl_of {tb : Tab} {fs : List Fd} (X : K.In h) (G : h.Ns mainGlobals mg) (c : He.SaysD fa ds K) (ck : ckAll tb fs fa ds = true) : Mdl (wdOf K fs) tb fs mg := by
  simp only [ckAll, Bool.and_eq_true] at ck
  obtain ⟨⟨k1, k2⟩, k3⟩ := ck
  rw [List.all_eq_true] at k2 k3
  refine ⟨rfl, fun k f hf => ?_, fun k x v hk => ?_, fun x hx => free_of X G c (k2 x hx)⟩
  · obtain ⟨d, hd, e1, e2, e3, e4, e5⟩ := ckDefs_at k1 hf
    have ea : (wdOf K fs).fa k = He.ga K f.name := by
      show He.ga K ((fs[k]?).elim "" (·.name)) = _
      rw [hf]; rfl
    obtain ⟨fd, F⟩ := c.def_ k hd
    refine ⟨by rw [ea]; exact glo_of X G c e4, d.name, d.qual, d.params, d.body, d.scope, fd, ?_, e5⟩
    have q1 : d.dvs K = [] := by unfold He.DefD.dvs; rw [e2]; rfl
    have q2 : d.kws K = [] := by unfold He.DefD.kws; rw [e3]; rfl
    have q3 : He.fAd K d.at_ = He.ga K f.name := by rw [e1]; rfl
    rw [q1, q2, q3] at F
    rw [ea]
    exact F
  · have := k3 (x, v) (List.mem_of_getElem? hk)
    cases v with
    | int i =>
      obtain ⟨t, e⟩ := int_of X G c this
      exact ⟨_, .int i, e, ⟨t, rfl⟩, fun _ _ _ => .int i⟩
    | _ => cases this
/-- THE END: the law's def by the interpreter's run -/
theorem law_of {tb : Tab} {fs : List Fd} {d kL n : Nat} {f : Fd} {fA : Addr} {P : Program} {w : World} (X : K.In h) (G : h.Ns mainGlobals mg) (c : He.SaysD fa ds K) (ck : ckAll tb fs fa ds = true) (hf : fs[kL]? = some f) (hp : parsOf f = ([("script" : Str)] : List Str)) (hn : f.name = "law") (hL : n ≤ LIM)
    (hfa : mg ("law" : Str) = some (.ref fA)) (run : ∀ ns : List Int, ns.length ≤ n → ∃ g', runF tb fs d kL [.scr ns] [] = some (.v (.bl true), g')) :
    ∃ (fd : FuncData) (sp : Sp), (∀ (s : Shared) (u : Value), BindsTo s fd ⟨[u], []⟩ [(("script" : Str), u)]) ∧
      (∀ (H : Hp) (a : Addr) (ns : List Int), ns.length ≤ n → SqL K H a (ns.map V.int) → sp [.ref a] H (fun v _ => v = .bl true) fun _ _ _ => False) ∧
      ∀ base : Heap, K.In base → base.Ns mainGlobals mg → FnOk P w K mg base CXN d fA fd ([("script" : Str)] : List Str) sp := by
  have M := mdl_of X G c ck
  obtain ⟨hm, x, qual, params, body, scope, fd0, F, hc⟩ := M.df kL f hf
  obtain ⟨_, _, _, fd, ps, hpl, Fk, B⟩ := (fns_ok (P := P) (w := w) (base := h) M d).at_ kL f hf
  obtain ⟨as, rfl, has, hpl, S, hb⟩ := ckFd_ok hc
  have eA : (wdOf K fs).fa kL = fA := by
    rw [hn] at hm
    rw [hm] at hfa
    cases hfa; rfl
  refine ⟨fd0, spF (wdOf K fs) (runF tb fs d) kL f, fun s u => ?_, fun H a ns hl hS => ?_, fun base hb1 hb2 => ?_⟩
  · have b := FunD.bindsA (ps := parsOf f) F (fun kV doc pm an cdv ct us hl => by
      rw [← has]
      exact bind_plain (by rw [has]; exact S.nd.sublist (List.take_sublist _ _)) (by rw [has]; exact hl)) s [u] (by rw [hp]; rfl)
    rw [hp] at b
    exact b
  · obtain ⟨g', hr⟩ := run ns hl
    refine ⟨[], fun _ => False, [.scr ns], [], g', .bl true, hr, .cons (.scr ?_ (Nat.le_trans hl hL)) .nil, ?_, ⟨rfl, List.nodup_nil, (fun a h => by cases h), (fun k a p h => by simp at h), (fun k p h => by simp at h)⟩, fun a h => h.elim, fun z H' _ _ rz _ => ?_⟩
    · rcases hS with hS | hS
      · exact .inl ⟨hS, fun z => z⟩
      · exact .inr hS
    · rw [← hpl, hp]; rfl
    · cases rz; rfl
  · have key : ∀ d, FnOk P w K mg base CXN d ((wdOf K fs).fa kL) fd0 (parsOf f) (spF (wdOf K fs) (runF tb fs d) kL f) := fun d => by
      cases d with
      | zero =>
        refine ⟨fun vs H Q E h => ?_, fun A outer s H args us vs Q E hr e0 hbd hv h => ?_⟩
        · obtain ⟨cs, O, ps, g, g', pv, h1, _⟩ := h
          cases h1
        · obtain ⟨cs, O, ps, g, g', pv, h1, _⟩ := h
          cases h1
      | succ d =>
        exact fn_one M d (fns_ok M d) hf F hc
    rw [← eA, ← hp]
    exact key d
end
end Z
end

section
set_option Elab.async false
set_option linter.all false
set_option maxRecDepth 100000
/-! ZM: the interpreter by equations; comprehensions and loops over mapped lists. -/
namespace Z
open PySem
theorem ev_e {tb : Tab} {cf : CF} {n : Nat} {ρ : Env} {g : G} {x : E} : (ev tb cf (n + 1)).e ρ g x = evE1 tb cf (ev tb cf n).e ρ g x := rfl
section
variable {tb : Tab} {cf : CF} {n : Nat} {ρ : Env} {g : G}
theorem ev_var (i : Nat) : (ev tb cf (n + 1)).e ρ g (.var i) = (match ρ[i]? with
    | some (.val v) => rt v g
    | _ => none) := rfl
theorem ev_pk (i : Nat) : (ev tb cf (n + 1)).e ρ g (.pk i) = (match ρ[i]? with
    | some (.val v) => rt v g
    | some (.own v) => rt v g
    | _ => none) := rfl
theorem ev_cst (c : PV) : (ev tb cf (n + 1)).e ρ g (.cst c) = rt c g := rfl
theorem ev_gv (k : Nat) : (ev tb cf (n + 1)).e ρ g (.gv k) = (match tb.gl[k]? with
    | some (_, v) => rt v g
    | none => none) := rfl
theorem ev_gf (k : Nat) : (ev tb cf (n + 1)).e ρ g (.gf k) = rt (.fn k) g := rfl
theorem ev_bin (o : BOp) (a b : E) : (ev tb cf (n + 1)).e ρ g (.bin o a b) = bd ((ev tb cf n).e ρ g a) fun v g1 => bd ((ev tb cf n).e ρ g1 b) fun w g2 => lf (binV o v w) g2 := rfl
theorem ev_neg (a : E) : (ev tb cf (n + 1)).e ρ g (.neg a) = bd ((ev tb cf n).e ρ g a) fun v g1 => match v with
    | .int i => rt (.int (-i)) g1
    | _ => none := rfl
theorem ev_not (a : E) : (ev tb cf (n + 1)).e ρ g (.not a) = bd ((ev tb cf n).e ρ g a) fun v g1 => match v with
    | .bl b => rt (.bl (!b)) g1
    | _ => none := rfl
theorem ev_and (a b : E) : (ev tb cf (n + 1)).e ρ g (.and a b) = bd ((ev tb cf n).e ρ g a) fun v g1 => match v with
    | .bl true => (ev tb cf n).e ρ g1 b
    | .bl false => rt (.bl false) g1
    | _ => none := rfl
theorem ev_or (a b : E) : (ev tb cf (n + 1)).e ρ g (.or a b) = bd ((ev tb cf n).e ρ g a) fun v g1 => match v with
    | .bl true => rt (.bl true) g1
    | .bl false => (ev tb cf n).e ρ g1 b
    | _ => none := rfl
theorem ev_cmp (o : COp) (a b : E) : (ev tb cf (n + 1)).e ρ g (.cmp o a b) = bd ((ev tb cf n).e ρ g a) fun v g1 => bd ((ev tb cf n).e ρ g1 b) fun w g2 => lf ((cmpV o v w).map .bl) g2 := rfl
theorem ev_isN (a : E) : (ev tb cf (n + 1)).e ρ g (.isN a) = bd ((ev tb cf n).e ρ g a) fun v g1 => match v with
    | .non => rt (.bl true) g1
    | _ => rt (.bl false) g1 := rfl
theorem ev_isNN (a : E) : (ev tb cf (n + 1)).e ρ g (.isNN a) = bd ((ev tb cf n).e ρ g a) fun v g1 => match v with
    | .non => rt (.bl false) g1
    | _ => rt (.bl true) g1 := rfl
theorem ev_chain (o o' : COp) (a b c : E) : (ev tb cf (n + 1)).e ρ g (.chain o o' a b c) = bd ((ev tb cf n).e ρ g a) fun v g1 => bd ((ev tb cf n).e ρ g1 b) fun w g2 => match cmpV o v w with
    | some true => bd ((ev tb cf n).e ρ g2 c) fun u g3 => lf ((cmpV o' w u).map .bl) g3
    | some false => rt (.bl false) g2
    | none => none := rfl
theorem ev_ite (c a b : E) : (ev tb cf (n + 1)).e ρ g (.ite c a b) = bd (evC (ev tb cf n).e ρ g c) fun k g1 => if k then (ev tb cf n).e ρ g1 a else (ev tb cf n).e ρ g1 b := rfl
theorem ev_call (f : Nat) (l : List E) : (ev tb cf (n + 1)).e ρ g (.call f l) = bd (evL (ev tb cf n).e ρ g l) fun vs g1 => cf f vs g1 := rfl
theorem ev_callv (i : Nat) (l : List E) : (ev tb cf (n + 1)).e ρ g (.callv i l) = (match ρ[i]? with
    | some (.val (.fn f)) => bd (evL (ev tb cf n).e ρ g l) fun vs g1 => cf f vs g1
    | _ => none) := rfl
theorem ev_bi (b : Bi) (a : E) : (ev tb cf (n + 1)).e ρ g (.bi b a) = bd ((ev tb cf n).e ρ g a) fun v g1 => lf (biV b v) g1 := rfl
theorem ev_isi (t : Ty) (a : E) : (ev tb cf (n + 1)).e ρ g (.isi t a) = bd ((ev tb cf n).e ρ g a) fun v g1 => lf ((isiV t v).map .bl) g1 := rfl
theorem ev_mt (m : Mt) (r a : E) : (ev tb cf (n + 1)).e ρ g (.mt m r a) = bd ((ev tb cf n).e ρ g r) fun v g1 => bd ((ev tb cf n).e ρ g1 a) fun w g2 => lf (mtV m v w) g2 := rfl
theorem ev_idx (a i : E) : (ev tb cf (n + 1)).e ρ g (.idx a i) = bd ((ev tb cf n).e ρ g a) fun v g1 => bd ((ev tb cf n).e ρ g1 i) fun w g2 => lf (idxV g2 v w) g2 := rfl
theorem ev_sl (a : E) (lo hi : Option E) : (ev tb cf (n + 1)).e ρ g (.sl a lo hi) = bd ((ev tb cf n).e ρ g a) fun v g1 => bd (evO (ev tb cf n).e ρ g1 lo) fun l g2 => bd (evO (ev tb cf n).e ρ g2 hi) fun h g3 => lf (slV v l h) g3 := rfl
theorem ev_rev (a : E) : (ev tb cf (n + 1)).e ρ g (.rev a) = bd ((ev tb cf n).e ρ g a) fun v g1 => lf (revV v) g1 := rfl
theorem ev_tup (l : List E) : (ev tb cf (n + 1)).e ρ g (.tup l) = bd (evL (ev tb cf n).e ρ g l) fun vs g1 => rt (.tup vs) g1 := rfl
theorem ev_lst (l : List E) : (ev tb cf (n + 1)).e ρ g (.lst l) = bd (evL (ev tb cf n).e ρ g l) fun vs g1 => rt (.lst vs) g1 := rfl
theorem ev_comp (elt : E) (t : T) (it : It) (c : Option E) (own : List Nat) : (ev tb cf (n + 1)).e ρ g (.comp elt t it c own) = bd (evIt (ev tb cf n).e ρ g it) fun its g1 => nx0 (bd (compGo (ev tb cf n).e (wipeE ρ own) elt t c g1 its) fun vs g2 => rt (.lst vs) g2) := rfl
theorem ev_comp2 (elt : E) (t : T) (it : It) (c : Option E) (t' : T) (it' : It) (c' : Option E) (own own' : List Nat) : (ev tb cf (n + 1)).e ρ g (.comp2 elt t it c t' it' c' own own') = bd (evIt (ev tb cf n).e ρ g it) fun its g1 => nx0 (bd (compGo2 (ev tb cf n).e (wipeE ρ own) elt t c t' it' c' own' g1 its) fun vs g2 =>
      if vs.length ≤ LIM then rt (.lst vs) g2 else none) := rfl
end
theorem ev_b {tb : Tab} {cf : CF} {n : Nat} {ρ : Env} {g : G} {x : List S} : (ev tb cf (n + 1)).b ρ g x = evB1 (evS1 (ev tb cf n).e (ev tb cf n).b) ρ g x := rfl
theorem bd_some {α β : Type} {a : α} {g : G} {f : α → G → R β} : bd (some (.v a, g)) f = f a g := rfl
theorem bs_some {α : Type} {ρ : Env} {a : α} {g : G} {f : α → G → Option (SO × G)} : bs ρ (some (.v a, g)) f = f a g := rfl
theorem seqV_lst {l : List PV} : seqV (.lst l) = some l := rfl
theorem seqV_tup {l : List PV} : seqV (.tup l) = some l := rfl
theorem zipV_ll {a b : List PV} : zipV (.lst a) (.lst b) = some (zipP a b) := rfl
theorem zipV_tt {a b : List PV} : zipV (.tup a) (.tup b) = some (zipP a b) := rfl
theorem zipV_lt {a b : List PV} : zipV (.lst a) (.tup b) = some (zipP a b) := rfl
theorem zipV_tl {a b : List PV} : zipV (.tup a) (.lst b) = some (zipP a b) := rfl
theorem enumV_lst {a : List PV} : enumV (.lst a) = some (enumP 0 a) := rfl
theorem enumV_tup {a : List PV} : enumV (.tup a) = some (enumP 0 a) := rfl
theorem atI_zero {x : PV} {l : List PV} : atI (x :: l) 0 = some x := by
  unfold atI L2.atI L2.ixN
  simp
theorem idxV_l {g : G} {l : List PV} {i : Int} : idxV g (.lst l) (.int i) = atI l i := rfl
theorem idxV_t {g : G} {l : List PV} {i : Int} : idxV g (.tup l) (.int i) = atI l i := rfl
theorem evIt_seq {e : EV} {ρ : Env} {g : G} {a : E} : evIt e ρ g (.seq a) = bd (e ρ g a) fun v g1 => lf (seqV v) g1 := rfl
theorem evIt_rng1 {e : EV} {ρ : Env} {g : G} {a : E} : evIt e ρ g (.rng1 a) = bd (e ρ g a) fun v g1 => lf (rng1V v) g1 := rfl
theorem evIt_rng2 {e : EV} {ρ : Env} {g : G} {a b : E} : evIt e ρ g (.rng2 a b) = bd (e ρ g a) fun v g1 => bd (e ρ g1 b) fun w g2 => lf (rng2V v w) g2 := rfl
theorem evIt_zip {e : EV} {ρ : Env} {g : G} {a b : E} : evIt e ρ g (.zip a b) = bd (e ρ g a) fun v g1 => bd (e ρ g1 b) fun w g2 => lf (zipV v w) g2 := rfl
theorem evIt_enum {e : EV} {ρ : Env} {g : G} {a : E} : evIt e ρ g (.enum a) = bd (e ρ g a) fun v g1 => lf (enumV v) g1 := rfl
theorem binV_addI {i j : Int} : binV .add (.int i) (.int j) = some (.int (i + j)) := rfl
theorem binV_subI {i j : Int} : binV .sub (.int i) (.int j) = some (.int (i - j)) := rfl
theorem binV_addL {x y : List PV} : binV .add (.lst x) (.lst y) = if x.length + y.length ≤ LIM then some (.lst (x ++ y)) else none := rfl
theorem binV_addT {x y : List PV} : binV .add (.tup x) (.tup y) = if x.length + y.length ≤ LIM then some (.tup (x ++ y)) else none := rfl
theorem binV_mod {i j : Int} : binV .mod (.int i) (.int j) = if j ≠ 0 then some (.int (i.fmod j)) else none := rfl
theorem biV_lenL {l : List PV} : biV .len (.lst l) = some (.int l.length) := rfl
theorem biV_lenT {l : List PV} : biV .len (.tup l) = some (.int l.length) := rfl
theorem biV_sumL {l : List PV} : biV .sum (.lst l) = (intsOf l).map fun ns => .int ns.sum := rfl
theorem biV_sumT {l : List PV} : biV .sum (.tup l) = (intsOf l).map fun ns => .int ns.sum := rfl
theorem biV_allL {l : List PV} : biV .all (.lst l) = (blsOf l).map fun bs => .bl (bs.all id) := rfl
theorem biV_anyL {l : List PV} : biV .any (.lst l) = (blsOf l).map fun bs => .bl (bs.any id) := rfl
theorem biV_listL {l : List PV} : biV .list (.lst l) = some (.lst l) := rfl
theorem biV_listT {l : List PV} : biV .list (.tup l) = some (.lst l) := rfl
theorem biV_tupL {l : List PV} : biV .tuple (.lst l) = some (.tup l) := rfl
theorem biV_tupT {l : List PV} : biV .tuple (.tup l) = some (.tup l) := rfl
theorem biV_intI {i : Int} : biV .int (.int i) = some (.int i) := rfl
theorem cmpV_eq {a b : PV} : cmpV .eq a b = eqV a b := rfl
theorem cmpV_ne {a b : PV} : cmpV .ne a b = (eqV a b).map (!·) := rfl
theorem cmpV_lt {i j : Int} : cmpV .lt (.int i) (.int j) = some (decide (i < j)) := rfl
theorem cmpV_le {i j : Int} : cmpV .le (.int i) (.int j) = some (decide (i ≤ j)) := rfl
theorem cmpV_gt {i j : Int} : cmpV .gt (.int i) (.int j) = some (decide (j < i)) := rfl
theorem cmpV_ge {i j : Int} : cmpV .ge (.int i) (.int j) = some (decide (j ≤ i)) := rfl
theorem cmpV_innL {x : PV} {l : List PV} : cmpV .inn x (.lst l) = if x.okd DEEP && okds DEEP l then some (inV x l) else none := rfl
theorem cmpV_innT {x : PV} {l : List PV} : cmpV .inn x (.tup l) = if x.okd DEEP && okds DEEP l then some (inV x l) else none := rfl
theorem cmpV_ninL {x : PV} {l : List PV} : cmpV .nin x (.lst l) = if x.okd DEEP && okds DEEP l then some (!inV x l) else none := rfl
theorem cmpV_ninT {x : PV} {l : List PV} : cmpV .nin x (.tup l) = if x.okd DEEP && okds DEEP l then some (!inV x l) else none := rfl
theorem bindT_nm {i : Nat} {v : PV} {ρ : Env} : bindT (.nm i) v ρ = if i < ρ.length then some (ρ.set i (.val v)) else none := by rw [bindT]
theorem bindT_tp {ts : List T} {l : List PV} {ρ : Env} : bindT (.tp ts) (.tup l) ρ = bindTs ts l ρ := by rw [bindT]
theorem bindTs_nil {ρ : Env} : bindTs [] [] ρ = some ρ := by rw [bindTs]
theorem bindTs_cons {t : T} {ts : List T} {v : PV} {l : List PV} {ρ : Env} : bindTs (t :: ts) (v :: l) ρ = (match bindT t v ρ with
    | some ρ' => bindTs ts l ρ'
    | none => none) := by
  rw [bindTs] <;> cases bindT t v ρ <;> rfl
theorem rt_def {α : Type} {a : α} {g : G} : rt a g = some (.v a, g) := rfl
theorem lf_some {α : Type} {a : α} {g : G} : lf (some a) g = some (.v a, g) := rfl
theorem nx0_some {α : Type} {a : α} {g : G} : nx0 (some (.v a, g)) = some (.v a, g) := rfl
theorem runF_at {tb : Tab} {fs : List Fd} {d k : Nat} {vs : List PV} {g : G} {f : Fd} (h1 : fs[k]? = some f) (h2 : vs.length = f.par) : runF tb fs (d + 1) k vs g = endF g.length ((ev tb (runF tb fs d) 60).b (startE f.names.length vs) g f.body) := by
  simp only [runF, h1, h2, if_true]
section
variable {α : Type} {e : EV} {ρ : Env} {elt : E} {t : T} {c : Option E} {g : G} {mk : α → PV}
theorem compGo_map (F : α → PV) : ∀ {l : List α}, (∀ x ∈ l, ∃ ρ', bindT t (mk x) ρ = some ρ' ∧ e ρ' g elt = some (.v (F x), g)) → compGo e ρ elt t none g (l.map mk) = some (.v (l.map F), g)
  | [], _ => rfl
  | x :: l, h => by
    obtain ⟨ρ', h1, h2⟩ := h x List.mem_cons_self
    rw [List.map_cons, compGo, h1]
    simp only [evCo, rt_def, bd_some, h2]
    rw [compGo_map F fun y hy => h y (List.mem_cons_of_mem _ hy)]
    rfl
theorem compGo_filter (F : α → PV) (P : α → Bool) {cc : E} : ∀ {l : List α}, (∀ x ∈ l, ∃ ρ', bindT t (mk x) ρ = some ρ' ∧ e ρ' g cc = some (.v (.bl (P x)), g) ∧ (P x = true → e ρ' g elt = some (.v (F x), g))) → compGo e ρ elt t (some cc) g (l.map mk) = some (.v ((l.filter P).map F), g)
  | [], _ => rfl
  | x :: l, h => by
    obtain ⟨ρ', h1, h2, h3⟩ := h x List.mem_cons_self
    rw [List.map_cons, compGo, h1]
    simp only [evCo, evC, rt_def, bd_some, h2]
    have q := compGo_filter F P fun y hy => h y (List.mem_cons_of_mem _ hy)
    cases hp : P x with
    | false => simp only [List.filter_cons, hp, Bool.false_eq_true, if_false]; exact q
    | true => simp only [h3 hp, bd_some, q, List.filter_cons, hp, if_true, List.map_cons]
theorem compGo2_map {β : Type} {t' : T} {it' : It} {own' : List Nat} {mk' : β → PV} (L : α → List β) (F : α → β → PV) : ∀ {l : List α}, (∀ x ∈ l, ∃ ρ', bindT t (mk x) ρ = some ρ' ∧ evIt e ρ' g it' = some (.v ((L x).map mk'), g) ∧ ∀ y ∈ L x, ∃ ρ2, bindT t' (mk' y) (wipeE ρ' own') = some ρ2 ∧ e ρ2 g elt = some (.v (F x y), g)) →
    compGo2 e ρ elt t none t' it' none own' g (l.map mk) = some (.v (l.flatMap fun x => (L x).map (F x)), g)
  | [], _ => rfl
  | x :: l, h => by
    obtain ⟨ρ', h1, h2, h3⟩ := h x List.mem_cons_self
    rw [List.map_cons, compGo2, h1]
    simp only [evCo, rt_def, bd_some, h2]
    rw [compGo_map (F x) h3, bd_some, compGo2_map L F fun y hy => h y (List.mem_cons_of_mem _ hy)]
    rfl
/-- a loop that keeps a word I by the turn -/
theorem forGo_inv {b : BV} {body : List S} {l : List PV} (I : Nat → Env → G → Prop) {so : SO} : ∀ (l : List PV) (i : Nat) (ρ : Env) (g : G), I i ρ g →
    (∀ j ρ g x, l[j]? = some x → I (i + j) ρ g → ∃ ρ1 ρ2 g2, bindT t x ρ = some ρ1 ∧ (b ρ1 g body = some (.nx ρ2, g2) ∨ b ρ1 g body = some (.ct ρ2, g2)) ∧ I (i + j + 1) ρ2 g2) →
    ∃ ρ' g', forGo b t body ρ g l = some (.nx ρ', g') ∧ I (i + l.length) ρ' g'
  | [], i, ρ, g, h, _ => ⟨ρ, g, rfl, h⟩
  | x :: l, i, ρ, g, h, st => by
    obtain ⟨ρ1, ρ2, g2, h1, h2, h3⟩ := st 0 ρ g x rfl h
    obtain ⟨ρ', g', q1, q2⟩ := forGo_inv (so := so) (l := l) I l (i + 1) ρ2 g2 h3 fun j ρ g y hy hI => by
      obtain ⟨a, b, c, p⟩ := st (j + 1) ρ g y hy (by have : i + (j + 1) = i + 1 + j := by omega
                                                     rw [this]; exact hI)
      have e : i + (j + 1) + 1 = i + 1 + j + 1 := by omega
      rw [e] at p
      exact ⟨a, b, c, p⟩
    refine ⟨ρ', g', ?_, by have : i + (x :: l).length = i + 1 + l.length := by simp only [List.length_cons]; omega
                           rw [this]; exact q2⟩
    unfold forGo
    rw [h1]
    rcases h2 with h2 | h2
    · simp only [h2]; exact q1
    · simp only [h2]; exact q1
end
/-! ### bits -/
def bI (b : Bool) : PV := .int (b2z b)
def rw (r : List Bool) : List PV := r.map bI
theorem zipP_map {α β : Type} (f : α → PV) (h : β → PV) : ∀ (a : List α) (b : List β), zipP (a.map f) (b.map h) = (a.zip b).map fun p => .tup [f p.1, h p.2]
  | [], b => by cases b <;> rfl
  | _ :: _, [] => rfl
  | x :: xs, y :: ys => by
    simp only [List.map_cons, zipP, List.zip_cons_cons]
    rw [zipP_map f h xs ys]
end Z
end

section
set_option Elab.async false
set_option linter.all false
set_option maxRecDepth 100000
set_option maxHeartbeats 0
/-! K01: the resolved syntax of waysback_k01_whole_even_systems, printed by gen.py. -/
namespace NK01
open PySem Z
def tab : Tab := ⟨[("WIDTH", .int 200), ("ROWS", .int 200)]⟩
def f_is_whole : Fd := ⟨"is_whole", ["value", "low", "high"], 3, true, [.ret (.and (.isi .int (.var 0)) (.and (.not (.isi .bool (.var 0))) (.chain .le .le (.var 1) (.var 0) (.var 2))))]⟩
def f_is_tuple_of : Fd := ⟨"is_tuple_of", ["value", "low", "high"], 3, true, [.ret (.and (.isi .tuple (.var 0)) (.chain .le .le (.var 1) (.bi .len (.var 0)) (.var 2)))]⟩
def f_are_wholes : Fd := ⟨"are_wholes", ["value", "many", "low", "high", "one"], 4, true, [.ret (.and (.call 1 [.var 0, .var 1, .var 1]) (.bi .all (.comp (.call 0 [.var 4, .var 2, .var 3]) (.nm 4) (.seq (.var 0)) .none [4])))]⟩
def f_is_even_system : Fd := ⟨"is_even_system", ["value", "row"], 1, true, [.ite (.or (.not (.call 1 [.var 0, .cst (.int 3), .cst (.int 3)])) (.or (.not (.call 0 [.idx (.var 0) (.cst (.int 0)), .cst (.int 0), .gv 0])) (.not (.call 1 [.idx (.var 0) (.cst (.int 1)), .cst (.int 0), .gv 1])))) [.ret (.cst (.bl false))] [], .ret (.and (.bi .all (.comp (.call 2 [.var 1, .idx (.var 0) (.cst (.int 0)), .cst (.int 0), .cst (.int 1)]) (.nm 1) (.seq (.idx (.var 0) (.cst (.int 1)))) .none [1])) (.call 2 [.idx (.var 0) (.cst (.int 2)), .bi .len (.idx (.var 0) (.cst (.int 1))), .cst (.int 0), .cst (.int 1)]))]⟩
def f_need_even : Fd := ⟨"need_even", ["value"], 1, true, [.ite (.not (.call 3 [.var 0])) [.rai 1] []]⟩
def f_added : Fd := ⟨"added", ["one", "other", "first", "second"], 2, true, [.ret (.comp (.ite (.cmp .ne (.var 2) (.var 3)) (.cst (.int 1)) (.cst (.int 0))) (.tp [.nm 2, .nm 3]) (.zip (.var 0) (.var 1)) .none [2, 3])]⟩
def f_reduced : Fd := ⟨"reduced", ["rows", "width", "left", "found", "columns", "row", "at", "some", "pivot"], 2, true, [.par true [(true, 2, .comp (.bi .list (.var 5)) (.nm 5) (.seq (.var 0)) .none [5]), (false, 3, .lst []), (true, 4, .lst [])], .for (.nm 6) (.rng1 (.var 1)) [.set false 7 (.comp (.var 5) (.nm 5) (.seq (.pk 2)) (.some (.cmp .eq (.idx (.var 5) (.var 6)) (.cst (.int 1)))) [5]), .ite (.cmp .eq (.var 7) (.lst [])) [.cnt] [], .set false 8 (.idx (.var 7) (.cst (.int 0))), .rem 2 (.var 8), .set true 2 (.comp (.ite (.cmp .eq (.idx (.var 5) (.var 6)) (.cst (.int 1))) (.call 5 [.var 5, .var 8]) (.var 5)) (.nm 5) (.seq (.pk 2)) .none [5]), .set false 3 (.bin .add (.comp (.ite (.cmp .eq (.idx (.var 5) (.var 6)) (.cst (.int 1))) (.call 5 [.var 5, .var 8]) (.var 5)) (.nm 5) (.seq (.var 3)) .none [5]) (.lst [.var 8])), .app 4 (.var 6)], .frz 4, .ret (.tup [.var 3, .var 4])]⟩
def f_widened : Fd := ⟨"widened", ["system", "many", "found", "at", "row", "one"], 1, true, [.par true [(false, 1, .bi .len (.idx (.var 0) (.cst (.int 1)))), (true, 2, .lst [])], .for (.tp [.nm 3, .nm 4]) (.enum (.idx (.var 0) (.cst (.int 1)))) [.app 2 (.bin .add (.bin .add (.bi .list (.var 4)) (.lst [.idx (.idx (.var 0) (.cst (.int 2))) (.var 3)])) (.comp (.ite (.cmp .eq (.var 5) (.var 3)) (.cst (.int 1)) (.cst (.int 0))) (.nm 5) (.rng1 (.var 1)) .none [5]))], .rto 2]⟩
def f_settled : Fd := ⟨"settled", ["system", "width", "rows", "columns", "found", "row", "column"], 1, true, [.set false 1 (.idx (.var 0) (.cst (.int 0))), .unp (.tp [.nm 2, .nm 3]) (.call 6 [.call 7 [.var 0], .bin .add (.var 1) (.cst (.int 1))]), .ite (.cmp .inn (.var 1) (.var 3)) [.ret (.tup [.cst .non, .bi .tuple (.sl (.idx (.var 2) (.mt .index (.var 3) (.var 1))) (.some (.bin .add (.var 1) (.cst (.int 1)))) .none)])] [], .set true 4 (.bin .mul (.lst [.cst (.int 0)]) (.var 1)), .for (.tp [.nm 5, .nm 6]) (.zip (.var 2) (.var 3)) [.sub 4 (.var 6) (.idx (.var 5) (.var 1))], .ret (.tup [.bi .tuple (.pk 4), .cst .non])]⟩
def f_quiet_in : Fd := ⟨"quiet_in", ["system", "width", "rows", "columns", "found", "free", "at", "vector", "row", "column"], 1, true, [.set false 1 (.idx (.var 0) (.cst (.int 0))), .unp (.tp [.nm 2, .nm 3]) (.call 6 [.idx (.var 0) (.cst (.int 1)), .var 1]), .set true 4 (.lst []), .for (.nm 5) (.seq (.comp (.var 6) (.nm 6) (.rng1 (.var 1)) (.some (.cmp .nin (.var 6) (.var 3))) [6])) [.set true 7 (.bin .mul (.lst [.cst (.int 0)]) (.var 1)), .sub 7 (.var 5) (.cst (.int 1)), .for (.tp [.nm 8, .nm 9]) (.zip (.var 2) (.var 3)) [.sub 7 (.var 9) (.idx (.var 8) (.var 5))], .app 4 (.bi .tuple (.pk 7))], .rto 4]⟩
def f_even_rank_in : Fd := ⟨"even_rank_in", ["system"], 1, true, [.ret (.bi .len (.idx (.call 6 [.idx (.var 0) (.cst (.int 1)), .idx (.var 0) (.cst (.int 0))]) (.cst (.int 1))))]⟩
def f_is_odd : Fd := ⟨"is_odd", ["row", "vector", "one", "other"], 2, true, [.ret (.cmp .eq (.bin .mod (.bi .sum (.comp (.bin .mul (.var 2) (.var 3)) (.tp [.nm 2, .nm 3]) (.zip (.var 0) (.var 1)) .none [2, 3])) (.cst (.int 2))) (.cst (.int 1)))]⟩
def f_even_rank : Fd := ⟨"even_rank", ["system"], 1, true, [.ex (.call 4 [.var 0]), .ret (.call 10 [.var 0])]⟩
def f_even_solution : Fd := ⟨"even_solution", ["system"], 1, false, [.ex (.call 4 [.var 0]), .ret (.idx (.call 8 [.var 0]) (.cst (.int 0)))]⟩
def f_even_mask : Fd := ⟨"even_mask", ["system"], 1, false, [.ex (.call 4 [.var 0]), .ret (.idx (.call 8 [.var 0]) (.cst (.int 1)))]⟩
def f_is_even_solution : Fd := ⟨"is_even_solution", ["system", "value", "row", "right"], 2, true, [.ex (.call 4 [.var 0]), .ite (.not (.call 2 [.var 1, .idx (.var 0) (.cst (.int 0)), .cst (.int 0), .cst (.int 1)])) [.ret (.cst (.bl false))] [], .ret (.bi .all (.comp (.cmp .eq (.call 11 [.var 2, .var 1]) (.cmp .eq (.var 3) (.cst (.int 1)))) (.tp [.nm 2, .nm 3]) (.zip (.idx (.var 0) (.cst (.int 1))) (.idx (.var 0) (.cst (.int 2)))) .none [2, 3]))]⟩
def f_is_even_mask : Fd := ⟨"is_even_mask", ["system", "value", "row", "at"], 2, false, [.ex (.call 4 [.var 0]), .ite (.or (.not (.call 2 [.var 1, .bi .len (.idx (.var 0) (.cst (.int 1))), .cst (.int 0), .cst (.int 1)])) (.not (.call 11 [.idx (.var 0) (.cst (.int 2)), .var 1]))) [.ret (.cst (.bl false))] [], .ret (.not (.bi .any (.comp (.call 11 [.comp (.idx (.var 2) (.var 3)) (.nm 2) (.seq (.idx (.var 0) (.cst (.int 1)))) .none [2], .var 1]) (.nm 3) (.rng1 (.idx (.var 0) (.cst (.int 0)))) .none [3])))]⟩
def f_quiet_rows : Fd := ⟨"quiet_rows", ["system"], 1, true, [.ex (.call 4 [.var 0]), .ret (.bi .tuple (.call 9 [.var 0]))]⟩
def f_are_quiet_rows : Fd := ⟨"are_quiet_rows", ["system", "value", "many", "one", "row"], 2, true, [.ex (.call 4 [.var 0]), .set false 2 (.bin .sub (.idx (.var 0) (.cst (.int 0))) (.call 10 [.var 0])), .ite (.or (.not (.call 1 [.var 1, .var 2, .var 2])) (.not (.bi .all (.comp (.call 2 [.var 3, .idx (.var 0) (.cst (.int 0)), .cst (.int 0), .cst (.int 1)]) (.nm 3) (.seq (.var 1)) .none [3])))) [.ret (.cst (.bl false))] [], .ite (.bi .any (.comp2 (.call 11 [.var 4, .var 3]) (.nm 4) (.seq (.idx (.var 0) (.cst (.int 1)))) .none (.nm 3) (.seq (.var 1)) .none [4, 3] [3])) [.ret (.cst (.bl false))] [], .ret (.cmp .eq (.bi .len (.idx (.call 6 [.var 1, .idx (.var 0) (.cst (.int 0))]) (.cst (.int 1)))) (.var 2))]⟩
def f_law_cup : Fd := ⟨"_law_cup", ["script", "cell"], 1, true, [.set false 1 (.bi .abs (.idx (.bin .add (.bi .list (.var 0)) (.lst [.cst (.int 0)])) (.cst (.int 0)))), .ret (.lst [.ite (.cmp .ge (.var 1) (.bin .pow (.cst (.int 10)) (.cst (.int 18)))) (.bin .fdiv (.var 1) (.cst (.int 101))) (.cst (.int 0)), .bin .add (.bin .mod (.bi .int (.bin .add (.bin .mul (.var 1) (.cst (.int 347))) (.cst (.int 4903)))) (.cst (.int 2024129311))) (.cst (.int 197))])]⟩
def f_law_roll : Fd := ⟨"_law_roll", ["cup", "many", "found", "deep"], 2, false, [.ite (.cmp .gt (.idx (.var 0) (.cst (.int 0))) (.cst (.int 0))) [.set false 2 (.bin .mod (.bi .int (.idx (.var 0) (.cst (.int 0)))) (.var 1)), .sub 0 (.cst (.int 0)) (.bin .fdiv (.idx (.var 0) (.cst (.int 0))) (.var 1)), .ret (.var 2)] [], .sub 0 (.cst (.int 1)) (.bin .mod (.bi .int (.bin .add (.bin .mul (.idx (.var 0) (.cst (.int 1))) (.cst (.int 30403))) (.cst (.int 8609)))) (.cst (.int 2147483543))), .set false 3 (.bin .mod (.bi .int (.bin .mul (.idx (.var 0) (.cst (.int 1))) (.bin .add (.idx (.var 0) (.cst (.int 1))) (.cst (.int 271))))) (.cst (.int 2147483587))), .ret (.bin .mod (.bi .int (.bin .fdiv (.var 3) (.cst (.int 859)))) (.var 1))]⟩
def f_law_some : Fd := ⟨"_law_some", ["cup", "things"], 2, false, [.ret (.idx (.var 1) (.call 20 [.var 0, .bi .len (.var 1)]))]⟩
def f_law_sort : Fd := ⟨"_law_sort", ["value"], 1, false, [.ite (.or (.isN (.var 0)) (.isi .bool (.var 0))) [.ret (.ite (.isN (.var 0)) (.cst (.int 0)) (.cst (.int 1)))] [], .ite (.or (.isi .int (.var 0)) (.isi .str (.var 0))) [.ret (.ite (.isi .int (.var 0)) (.cst (.int 2)) (.cst (.int 3)))] [], .ret (.ite (.isi .tuple (.var 0)) (.cst (.int 4)) (.ite (.isi .list (.var 0)) (.cst (.int 5)) (.cst (.int 6))))]⟩
def f_law_like : Fd := ⟨"_law_like", ["one", "other", "sort", "first", "second"], 2, true, [.set false 2 (.call 22 [.var 1]), .ite (.or (.cmp .ne (.call 22 [.var 0]) (.var 2)) (.cmp .eq (.var 2) (.cst (.int 6)))) [.ret (.cst (.bl false))] [], .ite (.cmp .inn (.var 2) (.tup [.cst (.int 4), .cst (.int 5)])) [.ret (.and (.cmp .eq (.bi .len (.var 0)) (.bi .len (.var 1))) (.cmp .eq (.comp (.cst (.int 1)) (.tp [.nm 3, .nm 4]) (.zip (.var 0) (.var 1)) (.some (.not (.call 23 [.var 3, .var 4]))) [3, 4]) (.lst [])))] [], .ret (.cmp .eq (.var 0) (.var 1))]⟩
def f_law_all : Fd := ⟨"_law_all", ["many", "found", "at", "row"], 1, false, [.set false 1 (.lst [.tup []]), .for (.nm 2) (.rng1 (.var 0)) [.set false 1 (.bin .add (.comp (.bin .add (.var 3) (.tup [.cst (.int 0)])) (.nm 3) (.seq (.var 1)) .none [3]) (.comp (.bin .add (.var 3) (.tup [.cst (.int 1)])) (.nm 3) (.seq (.var 1)) .none [3]))], .ret (.var 1)]⟩
def f_law_sum : Fd := ⟨"_law_sum", ["rows", "width", "row", "at"], 2, true, [.ret (.bi .tuple (.comp (.bin .mod (.bi .int (.bi .sum (.comp (.idx (.var 2) (.var 3)) (.nm 2) (.seq (.var 0)) .none [2]))) (.cst (.int 2))) (.nm 3) (.rng1 (.var 1)) .none [3]))]⟩
def f_law_odd : Fd := ⟨"_law_odd", ["one", "other", "first", "second"], 2, false, [.ret (.bin .mod (.bi .int (.bi .sum (.comp (.bin .mul (.var 2) (.var 3)) (.tp [.nm 2, .nm 3]) (.zip (.var 0) (.var 1)) .none [2, 3]))) (.cst (.int 2)))]⟩
def f_law_chosen : Fd := ⟨"_law_chosen", ["rows", "choice", "row", "bit"], 2, true, [.ret (.comp (.var 2) (.tp [.nm 2, .nm 3]) (.zip (.var 0) (.var 1)) (.some (.cmp .eq (.var 3) (.cst (.int 1)))) [2, 3])]⟩
def f_law_apart : Fd := ⟨"_law_apart", ["rows", "width", "choice"], 2, true, [.ret (.cmp .eq (.comp (.var 2) (.nm 2) (.seq (.call 24 [.bi .len (.var 0)])) (.some (.and (.cmp .inn (.cst (.int 1)) (.var 2)) (.cmp .nin (.cst (.int 1)) (.call 25 [.call 27 [.var 0, .var 2], .var 1])))) [2]) (.lst []))]⟩
def f_law_is_bits : Fd := ⟨"_law_is_bits", ["value", "many", "bit"], 2, true, [.ite (.or (.not (.isi .tuple (.var 0))) (.cmp .ne (.bi .len (.var 0)) (.var 1))) [.ret (.cst (.bl false))] [], .ret (.cmp .eq (.comp (.var 2) (.nm 2) (.seq (.var 0)) (.some (.or (.not (.isi .int (.var 2))) (.or (.isi .bool (.var 2)) (.cmp .nin (.var 2) (.tup [.cst (.int 0), .cst (.int 1)]))))) [2]) (.lst []))]⟩
def f_law_system : Fd := ⟨"_law_system", ["cup", "width", "rows", "right", "turn", "at"], 1, true, [.par true [(false, 1, .call 20 [.var 0, .cst (.int 8)]), (true, 2, .lst []), (true, 3, .lst [])], .for (.nm 4) (.rng1 (.call 20 [.var 0, .cst (.int 7)])) [.ite (.and (.cmp .gt (.bi .len (.pk 2)) (.cst (.int 1))) (.cmp .eq (.call 20 [.var 0, .cst (.int 3)]) (.cst (.int 0)))) [.app 2 (.call 25 [.lst [.idx (.pk 2) (.cst (.int 0)), .idx (.pk 2) (.neg (.cst (.int 1)))], .var 1]), .app 3 (.bin .mod (.bi .int (.bin .add (.bin .add (.idx (.pk 3) (.cst (.int 0))) (.idx (.pk 3) (.neg (.cst (.int 1))))) (.call 21 [.var 0, .lst [.cst (.int 0), .cst (.int 0), .cst (.int 1)]]))) (.cst (.int 2)))] [.app 2 (.bi .tuple (.comp (.call 20 [.var 0, .cst (.int 2)]) (.nm 5) (.rng1 (.var 1)) .none [5])), .app 3 (.call 20 [.var 0, .cst (.int 2)])]], .ret (.tup [.var 1, .bi .tuple (.pk 2), .bi .tuple (.pk 3)])]⟩
def f_law_is_quiet : Fd := ⟨"_law_is_quiet", ["system", "rank", "value", "many", "row", "one"], 3, true, [.set false 3 (.bin .sub (.idx (.var 0) (.cst (.int 0))) (.var 1)), .ite (.or (.not (.isi .tuple (.var 2))) (.or (.cmp .ne (.bi .len (.var 2)) (.var 3)) (.cmp .ne (.comp (.var 4) (.nm 4) (.seq (.var 2)) (.some (.not (.call 29 [.var 4, .idx (.var 0) (.cst (.int 0))]))) [4]) (.lst [])))) [.ret (.cst (.bl false))] [], .for (.nm 4) (.seq (.idx (.var 0) (.cst (.int 1)))) [.ite (.cmp .ne (.comp (.var 5) (.nm 5) (.seq (.var 2)) (.some (.cmp .eq (.call 26 [.var 4, .var 5]) (.cst (.int 1)))) [5]) (.lst [])) [.ret (.cst (.bl false))] []], .ret (.call 28 [.var 2, .idx (.var 0) (.cst (.int 0))])]⟩
def f_law_system_right : Fd := ⟨"_law_system_right", ["cup", "system", "width", "rows", "right", "size", "choice", "fits", "one", "row", "masks", "told", "found", "mask", "kept", "judge", "many", "odds", "turn", "odd", "quiet", "at", "other", "dues"], 2, true, [.unp (.tp [.nm 2, .nm 3, .nm 4]) (.var 1), .set false 5 (.bi .max (.comp (.bi .sum (.var 6)) (.nm 6) (.seq (.call 24 [.bi .len (.var 3)])) (.some (.call 28 [.call 27 [.var 3, .var 6], .var 2])) [6])), .set false 7 (.comp (.var 8) (.nm 8) (.seq (.call 24 [.var 2])) (.some (.cmp .eq (.comp (.call 26 [.var 9, .var 8]) (.nm 9) (.seq (.var 3)) .none [9]) (.bi .list (.var 4)))) [8]), .set false 10 (.comp (.var 8) (.nm 8) (.seq (.call 24 [.bi .len (.var 3)])) (.some (.and (.cmp .eq (.call 26 [.var 8, .var 4]) (.cst (.int 1))) (.cmp .nin (.cst (.int 1)) (.call 25 [.call 27 [.var 3, .var 8], .var 2])))) [8]), .set false 11 (.lst [.call 3 [.var 1], .call 12 [.var 1], .cmp .inn (.bi .len (.var 7)) (.tup [.cst (.int 0), .bi .len (.call 24 [.bin .sub (.var 2) (.var 5)])])]), .ite (.not (.call 23 [.var 11, .lst [.cst (.bl true), .var 5, .cst (.bl true)]])) [.ret (.cst (.bl false))] [], .par true [(false, 12, .call 13 [.var 1]), (false, 13, .call 14 [.var 1])], .ite (.or (.cmp .ne (.isN (.var 12)) (.cmp .eq (.var 7) (.lst []))) (.or (.cmp .ne (.isN (.var 13)) (.cmp .eq (.var 10) (.lst []))) (.cmp .eq (.isN (.var 12)) (.isN (.var 13))))) [.ret (.cst (.bl false))] [], .for (.tp [.nm 8, .nm 14, .nm 15, .nm 16]) (.seq (.tup [.tup [.var 12, .var 7, .gf 15, .var 2], .tup [.var 13, .var 10, .gf 16, .bi .len (.var 3)]])) [.ite (.and (.isNN (.var 8)) (.or (.not (.call 29 [.var 8, .var 16])) (.cmp .nin (.var 8) (.var 14)))) [.ret (.cst (.bl false))] [], .set true 17 (.bin .add (.comp (.call 21 [.var 0, .call 24 [.var 16]]) (.nm 18) (.rng1 (.cst (.int 4))) .none [18]) (.lst [.var 8, .cst .non, .bin .mul (.tup [.cst (.int 0)]) (.var 16), .bin .mul (.tup [.cst (.int 1)]) (.var 16)])), .set true 17 (.bin .add (.pk 17) (.lst [.bin .mul (.tup [.cst (.bl true)]) (.var 16), .bin .mul (.tup [.cst (.int 2)]) (.var 16)])), .set true 17 (.bin .add (.pk 17) (.lst [.bi .list (.call 21 [.var 0, .call 24 [.var 16]]), .bin .mul (.tup [.cst (.int 0)]) (.bin .add (.var 16) (.cst (.int 1)))])), .ite (.not (.call 23 [.comp (.callv 15 [.var 1, .var 19]) (.nm 19) (.seq (.pk 17)) .none [19], .comp (.and (.call 29 [.var 19, .var 16]) (.cmp .inn (.var 19) (.var 14))) (.nm 19) (.seq (.pk 17)) .none [19]])) [.ret (.cst (.bl false))] []], .set false 20 (.call 17 [.var 1]), .set true 17 (.lst [.var 20, .rev (.var 20), .sl (.var 20) (.some (.cst (.int 1))) .none, .bin .add (.var 20) (.tup [.bin .mul (.tup [.cst (.int 0)]) (.var 2)]), .bi .list (.var 20), .cst .non, .tup []]), .ite (.cmp .ne (.var 20) (.tup [])) [.par true [(false, 21, .call 20 [.var 0, .bi .len (.var 20)]), (false, 22, .idx (.var 20) (.call 20 [.var 0, .bi .len (.var 20)]))], .for (.nm 9) (.seq (.tup [.bin .mul (.tup [.cst (.int 0)]) (.var 2), .var 22, .call 25 [.lst [.idx (.var 20) (.var 21), .var 22], .var 2], .bi .list (.idx (.var 20) (.var 21)), .bin .mul (.tup [.cst (.int 1)]) (.var 2), .bin .add (.idx (.var 20) (.var 21)) (.tup [.cst (.int 0)])])) [.app 17 (.bin .add (.bin .add (.sl (.var 20) .none (.some (.var 21))) (.tup [.var 9])) (.sl (.var 20) (.some (.bin .add (.var 21) (.cst (.int 1)))) .none))]] [], .set false 23 (.comp (.call 31 [.var 1, .var 5, .var 19]) (.nm 19) (.seq (.pk 17)) .none [19]), .ret (.and (.idx (.var 23) (.cst (.int 0))) (.call 23 [.comp (.call 18 [.var 1, .var 19]) (.nm 19) (.seq (.pk 17)) .none [19], .var 23]))]⟩
def f_law : Fd := ⟨"law", ["script", "cup", "turn", "lamps", "twins", "told"], 1, true, [.set true 1 (.call 19 [.var 0]), .mkc 1, .for (.nm 2) (.rng1 (.cst (.int 7))) [.ite (.not (.call 32 [.var 1, .call 30 [.var 1]])) [.ret (.cst (.bl false))] []], .par false [(false, 3, .tup [.cst (.int 3), .tup [.tup [.cst (.int 1), .cst (.int 1), .cst (.int 0)], .tup [.cst (.int 1), .cst (.int 1), .cst (.int 1)], .tup [.cst (.int 0), .cst (.int 1), .cst (.int 1)]], .tup [.cst (.int 1), .cst (.int 1), .cst (.int 1)]]), (false, 4, .tup [.cst (.int 2), .tup [.tup [.cst (.int 1), .cst (.int 1)], .tup [.cst (.int 1), .cst (.int 1)]], .tup [.cst (.int 0), .cst (.int 1)]])], .set false 5 (.lst [.call 12 [.var 3], .call 13 [.var 3], .call 13 [.var 4], .call 14 [.var 4], .call 17 [.var 4], .call 17 [.var 3]]), .set false 5 (.bin .add (.var 5) (.lst [.call 13 [.tup [.cst (.int 0), .tup [], .tup []]], .call 14 [.tup [.cst (.int 0), .tup [.tup []], .tup [.cst (.int 1)]]], .call 13 [.tup [.cst (.int 0), .tup [.tup []], .tup [.cst (.int 0)]]], .call 12 [.tup [.cst (.int 5), .tup [], .tup []]]])), .ret (.call 23 [.var 5, .lst [.cst (.int 3), .tup [.cst (.int 0), .cst (.int 1), .cst (.int 0)], .cst .non, .tup [.cst (.int 1), .cst (.int 1)], .tup [.tup [.cst (.int 1), .cst (.int 1)]], .tup [], .tup [], .tup [.cst (.int 1)], .tup [], .cst (.int 0)]])]⟩
def fns : List Fd := ([f_is_whole, f_is_tuple_of, f_are_wholes, f_is_even_system, f_need_even, f_added, f_reduced, f_widened, f_settled, f_quiet_in, f_even_rank_in, f_is_odd] : List Fd) ++ ([f_even_rank, f_even_solution, f_even_mask, f_is_even_solution, f_is_even_mask, f_quiet_rows, f_are_quiet_rows, f_law_cup, f_law_roll, f_law_some, f_law_sort, f_law_like] : List Fd) ++ ([f_law_all, f_law_sum, f_law_odd, f_law_chosen, f_law_apart, f_law_is_bits, f_law_system, f_law_is_quiet, f_law_system_right, f_law] : List Fd)
end NK01
end

section
set_option Elab.async false
set_option linter.all false
set_option maxRecDepth 100000
set_option maxHeartbeats 0
/-! K01: the head of waysback_k01_whole_even_systems, the check of its syntax, the end. -/
namespace HK01
open PySem PySem.Spec PyProof.Rows L2
def top (i : Nat) : Stmt := PySem.Challenge.pw_waysback_k01_whole_even_systems.main.body.getD i (.Pass ⟨0, 0, 0, 0⟩)
def nameOf : Stmt → Str
  | .FunctionDef n .. => n
  | _ => ""
def dOf (s : Stmt) : He.DefD := ⟨(nameOf s, none), nameOf s, nameOf s, defArgs s, defBody s, defScope s, [], []⟩
def fn : List He.DefD := ([dOf (top 4), dOf (top 5), dOf (top 6), dOf (top 10), dOf (top 11), dOf (top 12), dOf (top 13), dOf (top 14), dOf (top 15), dOf (top 16), dOf (top 17), dOf (top 18)] : List He.DefD) ++ ([dOf (top 19), dOf (top 20), dOf (top 21), dOf (top 22), dOf (top 23), dOf (top 24), dOf (top 25), dOf (top 27), dOf (top 28), dOf (top 29), dOf (top 30), dOf (top 31)] : List He.DefD) ++ ([dOf (top 32), dOf (top 33), dOf (top 34), dOf (top 35), dOf (top 36), dOf (top 37), dOf (top 38), dOf (top 39), dOf (top 40), dOf (top 41)] : List He.DefD)
def fa : List He.Fa := ([.glo "is_whole", .glo "is_tuple_of", .glo "are_wholes", .glo "is_even_system", .glo "need_even", .glo "added", .glo "reduced", .glo "widened", .glo "settled", .glo "quiet_in", .glo "even_rank_in", .glo "is_odd"] : List He.Fa) ++ ([.glo "even_rank", .glo "even_solution", .glo "even_mask", .glo "is_even_solution", .glo "is_even_mask", .glo "quiet_rows", .glo "are_quiet_rows", .glo "_law_cup", .glo "_law_roll", .glo "_law_some", .glo "_law_sort", .glo "_law_like"] : List He.Fa) ++ ([.glo "_law_all", .glo "_law_sum", .glo "_law_odd", .glo "_law_chosen", .glo "_law_apart", .glo "_law_is_bits", .glo "_law_system", .glo "_law_is_quiet", .glo "_law_system_right", .glo "law", .free "len", .free "sum"] : List He.Fa) ++ ([.free "all", .free "any", .free "abs", .free "max", .free "min", .free "sorted", .free "list", .free "tuple", .free "int", .free "str", .free "bool", .free "isinstance"] : List He.Fa) ++ ([.free "range", .free "zip", .free "enumerate", .int "WIDTH" 200, .int "ROWS" 200] : List He.Fa)
abbrev R : PySem.W.OpenRow := PySem.W.OpenLaw.row PySem.Challenge.rw_waysback_k01_whole_even_systems
abbrev hk : PySem.W.Hook := He.hookD 4 fa fn
def ob (s : PySem.W.SharedT) : He.AlD := He.obsDG 4 fa fn (HandSHeadRun.getT s)
theorem ob_eq (s : PySem.W.SharedT) : ob s = hk.obs s.abs := He.obsDG_eq (HandSHeadRun.getT_eq s)
def loose : List PySem.Str := (["PuzzleError", "InvalidRows", "is_whole", "is_tuple_of", "are_wholes", "WIDTH", "ROWS", "is_even_system", "need_even", "added", "reduced", "widened", "settled", "quiet_in", "even_rank_in"] : List PySem.Str) ++ (["is_odd", "even_rank", "even_solution", "even_mask", "is_even_solution", "is_even_mask", "quiet_rows", "are_quiet_rows", "_law_cup", "_law_roll", "_law_some", "_law_sort", "_law_like", "_law_all", "_law_sum"] : List PySem.Str) ++ (["_law_odd", "_law_chosen", "_law_apart", "_law_is_bits", "_law_system", "_law_is_quiet", "_law_system_right"] : List PySem.Str)
theorem checks : Z.ckAll NK01.tab NK01.fns fa fn = true := by decide +kernel
theorem run (w : World) : HandSHeadRun.RunEq R (PySem.W.view R.prog [41]) hk ob 4000 loose w := by
  intro os
  kernel_rfl
end HK01
open PySem PySem.W PySem.Calls PyProof.Rows
theorem NK01.ends (law : ∀ ns : List Int, ns.length ≤ 63 → ∃ g', Z.runF NK01.tab NK01.fns 24 33 [.scr ns] [] = some (.v (.bl true), g')) : PySem.Challenge.rw_waysback_k01_whole_even_systems.Holds := by
  w_on; o_law
  refine HandSHeadRun.head_any (r := OpenLaw.row PySem.Challenge.rw_waysback_k01_whole_even_systems) (q := view (OpenLaw.row PySem.Challenge.rw_waysback_k01_whole_even_systems).prog [41]) (H := HK01.hk) (ob := HK01.ob) (M := 4000) (loose := HK01.loose) (d := HandSHeadRun.topDef (OpenLaw.row PySem.Challenge.rw_waysback_k01_whole_even_systems).prog 41) (kwd := []) HK01.ob_eq
    (by kernel_rfl) (fun s => by kernel_rfl) HK01.run (by kernel_rfl) (by kernel_rfl) (by kernel_rfl) (by rfl) (by first | assumption | decide +kernel) (by decide +kernel) ⟨rfl, rfl, rfl, rfl, rfl, by decide +kernel⟩ ?hw ?hc
  case hw => w_witness2
  case hc =>
    refine L2.walk_ofE (l := PySem.Challenge.rw_waysback_k01_whole_even_systems) (n := 63) (k := 24) (x := "script") (CX := Z.CXN) rfl (by decide) (by kernel_rfl) ⟨rfl, by decide, by decide⟩ ?F (fun _ _ _ _ z => z)
    intro w mg fa h Y G hmg0
    obtain ⟨K, KX, c⟩ := Y
    have hmg : mg ("law" : PySem.Str) = some (.ref fa) := by
      have e : (HandSHeadRun.topDef (OpenLaw.row PySem.Challenge.rw_waysback_k01_whole_even_systems).prog 41).name = ("law" : PySem.Str) := by kernel_rfl
      rw [← e]
      exact hmg0
    obtain ⟨fd, sp, hb, hsp, hF⟩ := Z.law_of (d := 24) (kL := 33) (n := 63) (P := (PySem.Challenge.rw_waysback_k01_whole_even_systems).prog) (w := w) KX G c HK01.checks (f := NK01.f_law) (by rfl) (by decide +kernel) (by decide +kernel) (by decide) hmg law
    exact ⟨K, fd, sp, KX, hb, fun H a ns hl _ hS => hsp H a ns hl hS, hF⟩
end

section
set_option Elab.async false
set_option linter.all false
set_option maxRecDepth 100000
set_option maxHeartbeats 1000000
namespace NK01
open PySem Z
abbrev Row := List Bool
def bT (r : Row) : PV := .tup (rw r)
def bL (r : Row) : PV := .lst (rw r)
def addB (a b : Row) : Row := (a.zip b).map fun p => xor p.1 p.2
theorem r_added (d : Nat) (a b : Row) (g : G) : runF tab fns (d + 1) 5 [bL a, bL b] g = some (.v (bL (addB a b)), g) := by
  show endF g.length ((ev tab (runF tab fns d) 60).b (startE 4 [bL a, bL b]) g f_added.body) = _
  have h : compGo (ev tab (runF tab fns d) 58).e [.val (.lst (rw a)), .val (.lst (rw b)), .no, .no] (.ite (.cmp .ne (.var 2) (.var 3)) (.cst (.int 1)) (.cst (.int 0))) (.tp [.nm 2, .nm 3]) none g (zipP (rw a) (rw b)) = some (.v (rw (addB a b)), g) := by
    unfold rw addB
    rw [zipP_map, compGo_map fun p => bI (xor p.1 p.2), List.map_map]
    · rfl
    · intro p _
      refine ⟨_, rfl, ?_⟩
      rcases p with ⟨p, q⟩
      cases p <;> cases q <;> rfl
  simp [ev_b, evB1, evS1, ev_var, ev_pk, ev_cst, ev_gv, ev_gf, ev_bin, ev_neg, ev_not, ev_and, ev_or, ev_cmp, ev_isN, ev_isNN, ev_chain, ev_ite, ev_call, ev_callv, ev_bi, ev_isi, ev_mt, ev_idx, ev_sl, ev_rev, ev_tup, ev_lst, ev_comp, ev_comp2, evIt_seq, evIt_rng1, evIt_rng2, evIt_zip, evIt_enum, evL, evO, evC, evCo, bd_some, bs_some, rt_def, lf_some, nx0_some, bindT_nm, bindT_tp, bindTs_nil, bindTs_cons, wipeE, startE, setNx, setSl, slot, modV, seqV_lst, seqV_tup, zipV_ll, zipV_tt, zipV_lt, zipV_tl, enumV_lst, enumV_tup, biV_lenL, biV_lenT, biV_sumL, biV_sumT, biV_allL, biV_anyL, biV_listL, biV_listT, biV_tupL, biV_tupT, biV_intI, binV_addI, binV_subI, binV_addL, binV_addT, binV_mod, cmpV_eq, cmpV_ne, cmpV_lt, cmpV_le, cmpV_gt, cmpV_ge, cmpV_innL, cmpV_innT, cmpV_ninL, cmpV_ninT, isiV, slV, revV, idxV_l, idxV_t, endF, f_added, bL, h]
/-! ### wholes -/
def sca : PV → Bool
  | .int _ => true | .bl _ => true | _ => false
def isW : PV → Int → Int → Bool
  | .int i, lo, hi => decide (lo ≤ i) && decide (i ≤ hi)
  | _, _, _ => false
theorem r_is_whole (d : Nat) (v : PV) (lo hi : Int) (g : G) (hv : sca v = true) : runF tab fns (d + 1) 0 [v, .int lo, .int hi] g = some (.v (.bl (isW v lo hi)), g) := by
  cases v with
  | int i =>
    show endF g.length ((ev tab (runF tab fns d) 60).b (startE 3 [.int i, .int lo, .int hi]) g f_is_whole.body) = _
    by_cases h1 : lo ≤ i
    · simp [ev_b, evB1, evS1, ev_var, ev_pk, ev_cst, ev_gv, ev_gf, ev_bin, ev_neg, ev_not, ev_and, ev_or, ev_cmp, ev_isN, ev_isNN, ev_chain, ev_ite, ev_call, ev_callv, ev_bi, ev_isi, ev_mt, ev_idx, ev_sl, ev_rev, ev_tup, ev_lst, ev_comp, ev_comp2, evIt_seq, evIt_rng1, evIt_rng2, evIt_zip, evIt_enum, evL, evO, evC, evCo, bd_some, bs_some, rt_def, lf_some, nx0_some, bindT_nm, bindT_tp, bindTs_nil, bindTs_cons, wipeE, startE, setNx, setSl, slot, modV, seqV_lst, seqV_tup, zipV_ll, zipV_tt, zipV_lt, zipV_tl, enumV_lst, enumV_tup, biV_lenL, biV_lenT, biV_sumL, biV_sumT, biV_allL, biV_anyL, biV_listL, biV_listT, biV_tupL, biV_tupT, biV_intI, binV_addI, binV_subI, binV_addL, binV_addT, binV_mod, cmpV_eq, cmpV_ne, cmpV_lt, cmpV_le, cmpV_gt, cmpV_ge, cmpV_innL, cmpV_innT, cmpV_ninL, cmpV_ninT, isiV, slV, revV, idxV_l, idxV_t, endF, f_is_whole, h1, isW, flatP]
    · simp [ev_b, evB1, evS1, ev_var, ev_pk, ev_cst, ev_gv, ev_gf, ev_bin, ev_neg, ev_not, ev_and, ev_or, ev_cmp, ev_isN, ev_isNN, ev_chain, ev_ite, ev_call, ev_callv, ev_bi, ev_isi, ev_mt, ev_idx, ev_sl, ev_rev, ev_tup, ev_lst, ev_comp, ev_comp2, evIt_seq, evIt_rng1, evIt_rng2, evIt_zip, evIt_enum, evL, evO, evC, evCo, bd_some, bs_some, rt_def, lf_some, nx0_some, bindT_nm, bindT_tp, bindTs_nil, bindTs_cons, wipeE, startE, setNx, setSl, slot, modV, seqV_lst, seqV_tup, zipV_ll, zipV_tt, zipV_lt, zipV_tl, enumV_lst, enumV_tup, biV_lenL, biV_lenT, biV_sumL, biV_sumT, biV_allL, biV_anyL, biV_listL, biV_listT, biV_tupL, biV_tupT, biV_intI, binV_addI, binV_subI, binV_addL, binV_addT, binV_mod, cmpV_eq, cmpV_ne, cmpV_lt, cmpV_le, cmpV_gt, cmpV_ge, cmpV_innL, cmpV_innT, cmpV_ninL, cmpV_ninT, isiV, slV, revV, idxV_l, idxV_t, endF, f_is_whole, h1, isW, flatP]
  | bl b =>
    show endF g.length ((ev tab (runF tab fns d) 60).b (startE 3 [.bl b, .int lo, .int hi]) g f_is_whole.body) = _
    simp [ev_b, evB1, evS1, ev_var, ev_pk, ev_cst, ev_gv, ev_gf, ev_bin, ev_neg, ev_not, ev_and, ev_or, ev_cmp, ev_isN, ev_isNN, ev_chain, ev_ite, ev_call, ev_callv, ev_bi, ev_isi, ev_mt, ev_idx, ev_sl, ev_rev, ev_tup, ev_lst, ev_comp, ev_comp2, evIt_seq, evIt_rng1, evIt_rng2, evIt_zip, evIt_enum, evL, evO, evC, evCo, bd_some, bs_some, rt_def, lf_some, nx0_some, bindT_nm, bindT_tp, bindTs_nil, bindTs_cons, wipeE, startE, setNx, setSl, slot, modV, seqV_lst, seqV_tup, zipV_ll, zipV_tt, zipV_lt, zipV_tl, enumV_lst, enumV_tup, biV_lenL, biV_lenT, biV_sumL, biV_sumT, biV_allL, biV_anyL, biV_listL, biV_listT, biV_tupL, biV_tupT, biV_intI, binV_addI, binV_subI, binV_addL, binV_addT, binV_mod, cmpV_eq, cmpV_ne, cmpV_lt, cmpV_le, cmpV_gt, cmpV_ge, cmpV_innL, cmpV_innT, cmpV_ninL, cmpV_ninT, isiV, slV, revV, idxV_l, idxV_t, endF, f_is_whole, isW, flatP]
  | _ => cases hv
def isTup (v : PV) (lo hi : Int) : Bool := match v with
  | .tup l => decide (lo ≤ l.length) && decide ((l.length : Int) ≤ hi)
  | _ => false
def top : PV → Bool
  | .non => true | .int _ => true | .bl _ => true | .tup _ => true | .lst _ => true | .str _ => true | _ => false
theorem r_is_tuple_of (d : Nat) (v : PV) (lo hi : Int) (g : G) (hv : top v = true) : runF tab fns (d + 1) 1 [v, .int lo, .int hi] g = some (.v (.bl (isTup v lo hi)), g) := by
  show endF g.length ((ev tab (runF tab fns d) 60).b (startE 3 [v, .int lo, .int hi]) g f_is_tuple_of.body) = _
  cases v with
  | tup l =>
    by_cases h1 : lo ≤ l.length
    · simp [ev_b, evB1, evS1, ev_var, ev_pk, ev_cst, ev_gv, ev_gf, ev_bin, ev_neg, ev_not, ev_and, ev_or, ev_cmp, ev_isN, ev_isNN, ev_chain, ev_ite, ev_call, ev_callv, ev_bi, ev_isi, ev_mt, ev_idx, ev_sl, ev_rev, ev_tup, ev_lst, ev_comp, ev_comp2, evIt_seq, evIt_rng1, evIt_rng2, evIt_zip, evIt_enum, evL, evO, evC, evCo, bd_some, bs_some, rt_def, lf_some, nx0_some, bindT_nm, bindT_tp, bindTs_nil, bindTs_cons, wipeE, startE, setNx, setSl, slot, modV, seqV_lst, seqV_tup, zipV_ll, zipV_tt, zipV_lt, zipV_tl, enumV_lst, enumV_tup, biV_lenL, biV_lenT, biV_sumL, biV_sumT, biV_allL, biV_anyL, biV_listL, biV_listT, biV_tupL, biV_tupT, biV_intI, binV_addI, binV_subI, binV_addL, binV_addT, binV_mod, cmpV_eq, cmpV_ne, cmpV_lt, cmpV_le, cmpV_gt, cmpV_ge, cmpV_innL, cmpV_innT, cmpV_ninL, cmpV_ninT, isiV, slV, revV, idxV_l, idxV_t, endF, f_is_tuple_of, h1, isTup, flatP]
    · simp [ev_b, evB1, evS1, ev_var, ev_pk, ev_cst, ev_gv, ev_gf, ev_bin, ev_neg, ev_not, ev_and, ev_or, ev_cmp, ev_isN, ev_isNN, ev_chain, ev_ite, ev_call, ev_callv, ev_bi, ev_isi, ev_mt, ev_idx, ev_sl, ev_rev, ev_tup, ev_lst, ev_comp, ev_comp2, evIt_seq, evIt_rng1, evIt_rng2, evIt_zip, evIt_enum, evL, evO, evC, evCo, bd_some, bs_some, rt_def, lf_some, nx0_some, bindT_nm, bindT_tp, bindTs_nil, bindTs_cons, wipeE, startE, setNx, setSl, slot, modV, seqV_lst, seqV_tup, zipV_ll, zipV_tt, zipV_lt, zipV_tl, enumV_lst, enumV_tup, biV_lenL, biV_lenT, biV_sumL, biV_sumT, biV_allL, biV_anyL, biV_listL, biV_listT, biV_tupL, biV_tupT, biV_intI, binV_addI, binV_subI, binV_addL, binV_addT, binV_mod, cmpV_eq, cmpV_ne, cmpV_lt, cmpV_le, cmpV_gt, cmpV_ge, cmpV_innL, cmpV_innT, cmpV_ninL, cmpV_ninT, isiV, slV, revV, idxV_l, idxV_t, endF, f_is_tuple_of, h1, isTup, flatP]
  | dic _ => cases hv
  | fn _ => cases hv
  | cell _ => cases hv
  | scr _ => cases hv
  | _ => simp [ev_b, evB1, evS1, ev_var, ev_pk, ev_cst, ev_gv, ev_gf, ev_bin, ev_neg, ev_not, ev_and, ev_or, ev_cmp, ev_isN, ev_isNN, ev_chain, ev_ite, ev_call, ev_callv, ev_bi, ev_isi, ev_mt, ev_idx, ev_sl, ev_rev, ev_tup, ev_lst, ev_comp, ev_comp2, evIt_seq, evIt_rng1, evIt_rng2, evIt_zip, evIt_enum, evL, evO, evC, evCo, bd_some, bs_some, rt_def, lf_some, nx0_some, bindT_nm, bindT_tp, bindTs_nil, bindTs_cons, wipeE, startE, setNx, setSl, slot, modV, seqV_lst, seqV_tup, zipV_ll, zipV_tt, zipV_lt, zipV_tl, enumV_lst, enumV_tup, biV_lenL, biV_lenT, biV_sumL, biV_sumT, biV_allL, biV_anyL, biV_listL, biV_listT, biV_tupL, biV_tupT, biV_intI, binV_addI, binV_subI, binV_addL, binV_addT, binV_mod, cmpV_eq, cmpV_ne, cmpV_lt, cmpV_le, cmpV_gt, cmpV_ge, cmpV_innL, cmpV_innT, cmpV_ninL, cmpV_ninT, isiV, slV, revV, idxV_l, idxV_t, endF, f_is_tuple_of, isTup, flatP]
def areW (v : PV) (many lo hi : Int) : Bool := match v with
  | .tup l => decide ((l.length : Int) = many) && l.all fun x => isW x lo hi
  | _ => false
theorem blsOf_map {α : Type} (l : List α) (f : α → Bool) : blsOf (l.map fun x => .bl (f x)) = some (l.map f) := by
  induction l with
  | nil => rfl
  | cons x l ih => simp [blsOf, ih]
theorem r_are_wholes (d : Nat) (v : PV) (many lo hi : Int) (g : G) (hv : top v = true) (hs : ∀ l, v = .tup l → ∀ x ∈ l, sca x = true) : runF tab fns (d + 2) 2 [v, .int many, .int lo, .int hi] g = some (.v (.bl (areW v many lo hi)), g) := by
  show endF g.length ((ev tab (runF tab fns (d + 1)) 60).b (startE 5 [v, .int many, .int lo, .int hi]) g f_are_wholes.body) = _
  have h0 := r_is_tuple_of d v many many g hv
  cases ht : isTup v many many with
  | false =>
    rw [ht] at h0
    have : areW v many lo hi = false := by
      cases v with
      | tup l =>
        have ht : (decide (many ≤ l.length) && decide ((l.length : Int) ≤ many)) = false := ht
        show (decide ((l.length : Int) = many) && _) = false
        have : ¬ ((l.length : Int) = many) := fun e => by simp [e] at ht
        simp [this]
      | _ => rfl
    simp [ev_b, evB1, evS1, ev_var, ev_pk, ev_cst, ev_gv, ev_gf, ev_bin, ev_neg, ev_not, ev_and, ev_or, ev_cmp, ev_isN, ev_isNN, ev_chain, ev_ite, ev_call, ev_callv, ev_bi, ev_isi, ev_mt, ev_idx, ev_sl, ev_rev, ev_tup, ev_lst, ev_comp, ev_comp2, evIt_seq, evIt_rng1, evIt_rng2, evIt_zip, evIt_enum, evL, evO, evC, evCo, bd_some, bs_some, rt_def, lf_some, nx0_some, bindT_nm, bindT_tp, bindTs_nil, bindTs_cons, wipeE, startE, setNx, setSl, slot, modV, seqV_lst, seqV_tup, zipV_ll, zipV_tt, zipV_lt, zipV_tl, enumV_lst, enumV_tup, biV_lenL, biV_lenT, biV_sumL, biV_sumT, biV_allL, biV_anyL, biV_listL, biV_listT, biV_tupL, biV_tupT, biV_intI, binV_addI, binV_subI, binV_addL, binV_addT, binV_mod, cmpV_eq, cmpV_ne, cmpV_lt, cmpV_le, cmpV_gt, cmpV_ge, cmpV_innL, cmpV_innT, cmpV_ninL, cmpV_ninT, isiV, slV, revV, idxV_l, idxV_t, endF, f_are_wholes, h0, this, flatP]
  | true =>
    rw [ht] at h0
    cases v with
    | tup l =>
      have ht : (decide (many ≤ l.length) && decide ((l.length : Int) ≤ many)) = true := ht
      have hl : (l.length : Int) = many := by simp at ht; omega
      have h : compGo (ev tab (runF tab fns (d + 1)) 56).e [.val (.tup l), .val (.int many), .val (.int lo), .val (.int hi), .no] (.call 0 [.var 4, .var 2, .var 3]) (.nm 4) none g l = some (.v (l.map fun x => .bl (isW x lo hi)), g) := by
        have q := compGo_map (e := (ev tab (runF tab fns (d + 1)) 56).e) (ρ := [.val (.tup l), .val (.int many), .val (.int lo), .val (.int hi), .no]) (elt := .call 0 [.var 4, .var 2, .var 3]) (t := .nm 4) (g := g) (mk := fun x => x) (fun x => .bl (isW x lo hi)) (l := l) fun x hx => ⟨_, rfl, by
          have q := r_is_whole d x lo hi g (hs l rfl x hx)
          simp [ev_b, evB1, evS1, ev_var, ev_pk, ev_cst, ev_gv, ev_gf, ev_bin, ev_neg, ev_not, ev_and, ev_or, ev_cmp, ev_isN, ev_isNN, ev_chain, ev_ite, ev_call, ev_callv, ev_bi, ev_isi, ev_mt, ev_idx, ev_sl, ev_rev, ev_tup, ev_lst, ev_comp, ev_comp2, evIt_seq, evIt_rng1, evIt_rng2, evIt_zip, evIt_enum, evL, evO, evC, evCo, bd_some, bs_some, rt_def, lf_some, nx0_some, bindT_nm, bindT_tp, bindTs_nil, bindTs_cons, wipeE, startE, setNx, setSl, slot, modV, seqV_lst, seqV_tup, zipV_ll, zipV_tt, zipV_lt, zipV_tl, enumV_lst, enumV_tup, biV_lenL, biV_lenT, biV_sumL, biV_sumT, biV_allL, biV_anyL, biV_listL, biV_listT, biV_tupL, biV_tupT, biV_intI, binV_addI, binV_subI, binV_addL, binV_addT, binV_mod, cmpV_eq, cmpV_ne, cmpV_lt, cmpV_le, cmpV_gt, cmpV_ge, cmpV_innL, cmpV_innT, cmpV_ninL, cmpV_ninT, isiV, slV, revV, idxV_l, idxV_t, endF, q]⟩
        rw [List.map_id'] at q
        exact q
      simp [ev_b, evB1, evS1, ev_var, ev_pk, ev_cst, ev_gv, ev_gf, ev_bin, ev_neg, ev_not, ev_and, ev_or, ev_cmp, ev_isN, ev_isNN, ev_chain, ev_ite, ev_call, ev_callv, ev_bi, ev_isi, ev_mt, ev_idx, ev_sl, ev_rev, ev_tup, ev_lst, ev_comp, ev_comp2, evIt_seq, evIt_rng1, evIt_rng2, evIt_zip, evIt_enum, evL, evO, evC, evCo, bd_some, bs_some, rt_def, lf_some, nx0_some, bindT_nm, bindT_tp, bindTs_nil, bindTs_cons, wipeE, startE, setNx, setSl, slot, modV, seqV_lst, seqV_tup, zipV_ll, zipV_tt, zipV_lt, zipV_tl, enumV_lst, enumV_tup, biV_lenL, biV_lenT, biV_sumL, biV_sumT, biV_allL, biV_anyL, biV_listL, biV_listT, biV_tupL, biV_tupT, biV_intI, binV_addI, binV_subI, binV_addL, binV_addT, binV_mod, cmpV_eq, cmpV_ne, cmpV_lt, cmpV_le, cmpV_gt, cmpV_ge, cmpV_innL, cmpV_innT, cmpV_ninL, cmpV_ninT, isiV, slV, revV, idxV_l, idxV_t, endF, f_are_wholes, h0, areW, flatP, hl, h, blsOf_map]
    | _ => cases ht
end NK01
end

section
set_option Elab.async false
set_option linter.all false
set_option maxRecDepth 100000
set_option maxHeartbeats 1000000
namespace NK01
open PySem Z
/-! ### sums of bits -/
def xa (l : List Bool) : Bool := l.foldr xor false
theorem fmod2 : ∀ l : List Bool, ((l.map b2z).sum).fmod 2 = b2z (xa l) ∧ 0 ≤ (l.map b2z).sum
  | [] => ⟨rfl, Int.le_refl _⟩
  | b :: l => by
    obtain ⟨h, h0⟩ := fmod2 l
    have e : (List.map b2z (b :: l)).sum = b2z b + (l.map b2z).sum := by simp
    rw [e]
    have hb : 0 ≤ b2z b := by cases b <;> decide
    refine ⟨?_, by omega⟩
    rw [Int.fmod_eq_emod_of_nonneg _ (by decide)] at h ⊢
    show _ = b2z (xor b (xa l))
    cases b <;> cases hx : xa l <;> rw [hx] at h <;> simp only [b2z, if_true, Bool.false_eq_true, if_false, Bool.xor_false, Bool.xor_true, Bool.not_false, Bool.not_true] at h ⊢ <;> omega
theorem intsOf_map {α : Type} (l : List α) (f : α → Int) : intsOf (l.map fun x => .int (f x)) = some (l.map f) := by
  induction l with
  | nil => rfl
  | cons x l ih => simp [intsOf, ih]
def dotB (a b : Row) : Bool := xa ((a.zip b).map fun p => p.1 && p.2)
theorem mulB (p q : Bool) : b2z p * b2z q = b2z (p && q) := by cases p <;> cases q <;> rfl
theorem small_b (p : Bool) : ((b2z p).natAbs < P64) = True := by cases p <;> simp [b2z, P64]
theorem eqB (b : Bool) : eqV (.int (b2z b)) (.int 1) = some b := by cases b <;> rfl
theorem par_of {α : Type} (l : List α) (f : α → Bool) : ∃ ns, intsOf (l.map fun x => .int (b2z (f x))) = some ns ∧ ns.sum.fmod 2 = b2z (xa (l.map f)) :=
  ⟨_, intsOf_map l fun x => b2z (f x), by rw [← (fmod2 (l.map f)).1, List.map_map]; rfl⟩
theorem r_odd (d : Nat) (a b : Row) (g : G) : runF tab fns (d + 1) 26 [bT a, bT b] g = some (.v (.int (b2z (dotB a b))), g) := by
  show endF g.length ((ev tab (runF tab fns d) 60).b (startE 4 [bT a, bT b]) g f_law_odd.body) = _
  have h : compGo (ev tab (runF tab fns d) 55).e [.val (.tup (rw a)), .val (.tup (rw b)), .no, .no] (.bin .mul (.var 2) (.var 3)) (.tp [.nm 2, .nm 3]) none g (zipP (rw a) (rw b)) = some (.v ((a.zip b).map fun p => .int (b2z (p.1 && p.2))), g) := by
    unfold rw
    rw [zipP_map, compGo_map fun p => .int (b2z (p.1 && p.2))]
    intro p _
    refine ⟨_, rfl, ?_⟩
    rcases p with ⟨p, q⟩
    cases p <;> cases q <;> rfl
  obtain ⟨ns, hs, hm⟩ := par_of (a.zip b) fun p => p.1 && p.2
  simp [ev_b, evB1, evS1, ev_var, ev_pk, ev_cst, ev_gv, ev_gf, ev_bin, ev_neg, ev_not, ev_and, ev_or, ev_cmp, ev_isN, ev_isNN, ev_chain, ev_ite, ev_call, ev_callv, ev_bi, ev_isi, ev_mt, ev_idx, ev_sl, ev_rev, ev_tup, ev_lst, ev_comp, ev_comp2, evIt_seq, evIt_rng1, evIt_rng2, evIt_zip, evIt_enum, evL, evO, evC, evCo, bd_some, bs_some, rt_def, lf_some, nx0_some, bindT_nm, bindT_tp, bindTs_nil, bindTs_cons, wipeE, startE, setNx, setSl, slot, modV, seqV_lst, seqV_tup, zipV_ll, zipV_tt, zipV_lt, zipV_tl, enumV_lst, enumV_tup, biV_lenL, biV_lenT, biV_sumL, biV_sumT, biV_allL, biV_anyL, biV_listL, biV_listT, biV_tupL, biV_tupT, biV_intI, binV_addI, binV_subI, binV_addL, binV_addT, binV_mod, cmpV_eq, cmpV_ne, cmpV_lt, cmpV_le, cmpV_gt, cmpV_ge, cmpV_innL, cmpV_innT, cmpV_ninL, cmpV_ninT, isiV, slV, revV, idxV_l, idxV_t, endF, f_law_odd, bT, h, hs, flatP, dotB, hm]
theorem r_is_oddT (d : Nat) (a b : Row) (g : G) : runF tab fns (d + 1) 11 [bT a, bT b] g = some (.v (.bl (dotB a b)), g) := by
  show endF g.length ((ev tab (runF tab fns d) 60).b (startE 4 [bT a, bT b]) g f_is_odd.body) = _
  have h : compGo (ev tab (runF tab fns d) 55).e [.val (.tup (rw a)), .val (.tup (rw b)), .no, .no] (.bin .mul (.var 2) (.var 3)) (.tp [.nm 2, .nm 3]) none g (zipP (rw a) (rw b)) = some (.v ((a.zip b).map fun p => .int (b2z (p.1 && p.2))), g) := by
    unfold rw
    rw [zipP_map, compGo_map fun p => .int (b2z (p.1 && p.2))]
    intro p _
    refine ⟨_, rfl, ?_⟩
    rcases p with ⟨p, q⟩
    cases p <;> cases q <;> rfl
  obtain ⟨ns, hs, hm⟩ := par_of (a.zip b) fun p => p.1 && p.2
  have hq := eqB (dotB a b)
  unfold dotB at hq
  simp [ev_b, evB1, evS1, ev_var, ev_pk, ev_cst, ev_gv, ev_gf, ev_bin, ev_neg, ev_not, ev_and, ev_or, ev_cmp, ev_isN, ev_isNN, ev_chain, ev_ite, ev_call, ev_callv, ev_bi, ev_isi, ev_mt, ev_idx, ev_sl, ev_rev, ev_tup, ev_lst, ev_comp, ev_comp2, evIt_seq, evIt_rng1, evIt_rng2, evIt_zip, evIt_enum, evL, evO, evC, evCo, bd_some, bs_some, rt_def, lf_some, nx0_some, bindT_nm, bindT_tp, bindTs_nil, bindTs_cons, wipeE, startE, setNx, setSl, slot, modV, seqV_lst, seqV_tup, zipV_ll, zipV_tt, zipV_lt, zipV_tl, enumV_lst, enumV_tup, biV_lenL, biV_lenT, biV_sumL, biV_sumT, biV_allL, biV_anyL, biV_listL, biV_listT, biV_tupL, biV_tupT, biV_intI, binV_addI, binV_subI, binV_addL, binV_addT, binV_mod, cmpV_eq, cmpV_ne, cmpV_lt, cmpV_le, cmpV_gt, cmpV_ge, cmpV_innL, cmpV_innT, cmpV_ninL, cmpV_ninT, isiV, slV, revV, idxV_l, idxV_t, endF, f_is_odd, bT, h, hs, flatP, hm, hq, dotB]
theorem r_is_oddL (d : Nat) (a b : Row) (g : G) : runF tab fns (d + 1) 11 [bL a, bT b] g = some (.v (.bl (dotB a b)), g) := by
  show endF g.length ((ev tab (runF tab fns d) 60).b (startE 4 [bL a, bT b]) g f_is_odd.body) = _
  have h : compGo (ev tab (runF tab fns d) 55).e [.val (.lst (rw a)), .val (.tup (rw b)), .no, .no] (.bin .mul (.var 2) (.var 3)) (.tp [.nm 2, .nm 3]) none g (zipP (rw a) (rw b)) = some (.v ((a.zip b).map fun p => .int (b2z (p.1 && p.2))), g) := by
    unfold rw
    rw [zipP_map, compGo_map fun p => .int (b2z (p.1 && p.2))]
    intro p _
    refine ⟨_, rfl, ?_⟩
    rcases p with ⟨p, q⟩
    cases p <;> cases q <;> rfl
  obtain ⟨ns, hs, hm⟩ := par_of (a.zip b) fun p => p.1 && p.2
  have hq := eqB (dotB a b)
  unfold dotB at hq
  simp [ev_b, evB1, evS1, ev_var, ev_pk, ev_cst, ev_gv, ev_gf, ev_bin, ev_neg, ev_not, ev_and, ev_or, ev_cmp, ev_isN, ev_isNN, ev_chain, ev_ite, ev_call, ev_callv, ev_bi, ev_isi, ev_mt, ev_idx, ev_sl, ev_rev, ev_tup, ev_lst, ev_comp, ev_comp2, evIt_seq, evIt_rng1, evIt_rng2, evIt_zip, evIt_enum, evL, evO, evC, evCo, bd_some, bs_some, rt_def, lf_some, nx0_some, bindT_nm, bindT_tp, bindTs_nil, bindTs_cons, wipeE, startE, setNx, setSl, slot, modV, seqV_lst, seqV_tup, zipV_ll, zipV_tt, zipV_lt, zipV_tl, enumV_lst, enumV_tup, biV_lenL, biV_lenT, biV_sumL, biV_sumT, biV_allL, biV_anyL, biV_listL, biV_listT, biV_tupL, biV_tupT, biV_intI, binV_addI, binV_subI, binV_addL, binV_addT, binV_mod, cmpV_eq, cmpV_ne, cmpV_lt, cmpV_le, cmpV_gt, cmpV_ge, cmpV_innL, cmpV_innT, cmpV_ninL, cmpV_ninT, isiV, slV, revV, idxV_l, idxV_t, endF, f_is_odd, bT, bL, h, hs, flatP, hm, hq, dotB]
/-! ### rows -/
theorem rng_map : ∀ (n lo : Nat), rng lo n = (List.range n).map fun i => .int ((lo + i : Nat) : Int)
  | 0, _ => rfl
  | n + 1, lo => by
    rw [List.range_succ_eq_map, List.map_cons, List.map_map]
    show PV.int lo :: rng ((lo : Int) + 1) n = _
    have e : ((lo : Int) + 1) = ((lo + 1 : Nat) : Int) := by omega
    rw [e, rng_map n (lo + 1)]
    congr 1
    apply List.map_congr_left
    intro i _
    show PV.int _ = PV.int _
    congr 2
    omega
theorem rng0 (n : Nat) : rng 0 n = (List.range n).map fun (i : Nat) => .int (i : Int) := by
  have := rng_map n 0
  simp only [Nat.zero_add] at this
  exact this
theorem atI_rw {r : Row} {i : Nat} (h : i < r.length) : atI (rw r) (i : Int) = some (bI (r.getD i false)) := by
  unfold atI L2.atI L2.ixN rw
  rw [List.length_map]
  simp only [Int.natCast_nonneg, if_true]
  rw [if_pos (by omega)]
  simp [h]
theorem small_n {n : Nat} (h : n ≤ 1000) : rng1V (.int (n : Int)) = some (rng 0 n) := by
  have e : ((n : Int)).toNat = n := Int.toNat_natCast n
  have h1 : smallB (n : Int) = true := by
    unfold smallB
    rw [Bool.and_eq_true, decide_eq_true_eq, decide_eq_true_eq]
    exact ⟨by omega, by omega⟩
  have h2 : decide ((n : Int).toNat ≤ LIM) = true := decide_eq_true (by rw [e]; exact Nat.le_trans h (by decide))
  unfold rng1V
  show (if (smallB (n : Int) && decide ((n : Int).toNat ≤ LIM)) = true then some (rng 0 (n : Int).toNat) else none) = _
  rw [h1, h2, e]
  rfl
def sumB (rows : List Row) (w : Nat) : Row := (List.range w).map fun i => xa (rows.map fun r => r.getD i false)
theorem r_sumI (d : Nat) (rows : List Row) (w : Nat) (wi : Int) (hwi : wi = w) (g : G) (hw : w ≤ 1000) (hr : ∀ r ∈ rows, w ≤ r.length) : runF tab fns (d + 1) 25 [.lst (rows.map bT), .int wi] g = some (.v (bT (sumB rows w)), g) := by
  rw [runF_at (f := f_law_sum) rfl rfl]
  have h : compGo (ev tab (runF tab fns d) 57).e [.val (.lst (rows.map bT)), .val (.int wi), .no, .no] (.bin .mod (.bi .int (.bi .sum (.comp (.idx (.var 2) (.var 3)) (.nm 2) (.seq (.var 0)) .none [2]))) (.cst (.int 2))) (.nm 3) none g (rng 0 w) = some (.v (rw (sumB rows w)), g) := by
    rw [rng0]
    unfold rw sumB
    rw [List.map_map]
    rw [compGo_map fun (i : Nat) => bI (xa (rows.map fun r => r.getD i false))]
    · rfl
    intro i hi
    refine ⟨_, rfl, ?_⟩
    have hi : i < w := List.mem_range.mp hi
    obtain ⟨ii, hii⟩ : ∃ ii : Int, ii = i := ⟨_, rfl⟩
    rw [← hii]
    have h2 : compGo (ev tab (runF tab fns d) 53).e [.val (.lst (rows.map bT)), .val (.int wi), .no, .val (.int ii)] (.idx (.var 2) (.var 3)) (.nm 2) none g (rows.map bT) = some (.v (rows.map fun r => .int (b2z (r.getD i false))), g) := by
      rw [compGo_map fun r => .int (b2z (r.getD i false))]
      intro r hr'
      refine ⟨_, rfl, ?_⟩
      have := atI_rw (r := r) (i := i) (Nat.lt_of_lt_of_le hi (hr r hr'))
      rw [← hii] at this
      simp [ev_b, evB1, evS1, ev_var, ev_pk, ev_cst, ev_gv, ev_gf, ev_bin, ev_neg, ev_not, ev_and, ev_or, ev_cmp, ev_isN, ev_isNN, ev_chain, ev_ite, ev_call, ev_callv, ev_bi, ev_isi, ev_mt, ev_idx, ev_sl, ev_rev, ev_tup, ev_lst, ev_comp, ev_comp2, evIt_seq, evIt_rng1, evIt_rng2, evIt_zip, evIt_enum, evL, evO, evC, evCo, bd_some, bs_some, rt_def, lf_some, nx0_some, bindT_nm, bindT_tp, bindTs_nil, bindTs_cons, wipeE, startE, setNx, setSl, slot, modV, seqV_lst, seqV_tup, zipV_ll, zipV_tt, zipV_lt, zipV_tl, enumV_lst, enumV_tup, biV_lenL, biV_lenT, biV_sumL, biV_sumT, biV_allL, biV_anyL, biV_listL, biV_listT, biV_tupL, biV_tupT, biV_intI, binV_addI, binV_subI, binV_addL, binV_addT, binV_mod, cmpV_eq, cmpV_ne, cmpV_lt, cmpV_le, cmpV_gt, cmpV_ge, cmpV_innL, cmpV_innT, cmpV_ninL, cmpV_ninT, isiV, slV, revV, idxV_l, idxV_t, endF, bT, this, bI]
    obtain ⟨ns, hs, hm⟩ := par_of rows fun r => r.getD i false
    have h3 : (ev tab (runF tab fns d) 54).e [.val (.lst (rows.map bT)), .val (.int wi), .no, .val (.int ii)] g (.comp (.idx (.var 2) (.var 3)) (.nm 2) (.seq (.var 0)) .none [2]) = some (.v (.lst (rows.map fun r => .int (b2z (r.getD i false)))), g) := by
      generalize hX : (rows.map fun r => PV.int (b2z (r.getD i false))) = Xs at h2 hs ⊢
      simp [ev_b, evB1, evS1, ev_var, ev_pk, ev_cst, ev_gv, ev_gf, ev_bin, ev_neg, ev_not, ev_and, ev_or, ev_cmp, ev_isN, ev_isNN, ev_chain, ev_ite, ev_call, ev_callv, ev_bi, ev_isi, ev_mt, ev_idx, ev_sl, ev_rev, ev_tup, ev_lst, ev_comp, ev_comp2, evIt_seq, evIt_rng1, evIt_rng2, evIt_zip, evIt_enum, evL, evO, evC, evCo, bd_some, bs_some, rt_def, lf_some, nx0_some, bindT_nm, bindT_tp, bindTs_nil, bindTs_cons, wipeE, startE, setNx, setSl, slot, modV, seqV_lst, seqV_tup, zipV_ll, zipV_tt, zipV_lt, zipV_tl, enumV_lst, enumV_tup, biV_lenL, biV_lenT, biV_sumL, biV_sumT, biV_allL, biV_anyL, biV_listL, biV_listT, biV_tupL, biV_tupT, biV_intI, binV_addI, binV_subI, binV_addL, binV_addT, binV_mod, cmpV_eq, cmpV_ne, cmpV_lt, cmpV_le, cmpV_gt, cmpV_ge, cmpV_innL, cmpV_innT, cmpV_ninL, cmpV_ninT, isiV, slV, revV, idxV_l, idxV_t, endF, h2]
    generalize hX : (rows.map fun r => PV.int (b2z (r.getD i false))) = Xs at h2 hs h3 ⊢
    generalize hY : xa (rows.map fun r => r.getD i false) = y at hm ⊢
    generalize hC : E.comp (.idx (.var 2) (.var 3)) (.nm 2) (.seq (.var 0)) .none [2] = cc at h3 ⊢
    simp [ev_b, evB1, evS1, ev_var, ev_pk, ev_cst, ev_gv, ev_gf, ev_bin, ev_neg, ev_not, ev_and, ev_or, ev_cmp, ev_isN, ev_isNN, ev_chain, ev_ite, ev_call, ev_callv, ev_bi, ev_isi, ev_mt, ev_idx, ev_sl, ev_rev, ev_tup, ev_lst, ev_comp, ev_comp2, evIt_seq, evIt_rng1, evIt_rng2, evIt_zip, evIt_enum, evL, evO, evC, evCo, bd_some, bs_some, rt_def, lf_some, nx0_some, bindT_nm, bindT_tp, bindTs_nil, bindTs_cons, wipeE, startE, setNx, setSl, slot, modV, seqV_lst, seqV_tup, zipV_ll, zipV_tt, zipV_lt, zipV_tl, enumV_lst, enumV_tup, biV_lenL, biV_lenT, biV_sumL, biV_sumT, biV_allL, biV_anyL, biV_listL, biV_listT, biV_tupL, biV_tupT, biV_intI, binV_addI, binV_subI, binV_addL, binV_addT, binV_mod, cmpV_eq, cmpV_ne, cmpV_lt, cmpV_le, cmpV_gt, cmpV_ge, cmpV_innL, cmpV_innT, cmpV_ninL, cmpV_ninT, isiV, slV, revV, idxV_l, idxV_t, endF, h3, hs, hm, bI]
  have hn := small_n hw
  rw [← hwi] at hn
  simp [ev_b, evB1, evS1, ev_var, ev_pk, ev_cst, ev_gv, ev_gf, ev_bin, ev_neg, ev_not, ev_and, ev_or, ev_cmp, ev_isN, ev_isNN, ev_chain, ev_ite, ev_call, ev_callv, ev_bi, ev_isi, ev_mt, ev_idx, ev_sl, ev_rev, ev_tup, ev_lst, ev_comp, ev_comp2, evIt_seq, evIt_rng1, evIt_rng2, evIt_zip, evIt_enum, evL, evO, evC, evCo, bd_some, bs_some, rt_def, lf_some, nx0_some, bindT_nm, bindT_tp, bindTs_nil, bindTs_cons, wipeE, startE, setNx, setSl, slot, modV, seqV_lst, seqV_tup, zipV_ll, zipV_tt, zipV_lt, zipV_tl, enumV_lst, enumV_tup, biV_lenL, biV_lenT, biV_sumL, biV_sumT, biV_allL, biV_anyL, biV_listL, biV_listT, biV_tupL, biV_tupT, biV_intI, binV_addI, binV_subI, binV_addL, binV_addT, binV_mod, cmpV_eq, cmpV_ne, cmpV_lt, cmpV_le, cmpV_gt, cmpV_ge, cmpV_innL, cmpV_innT, cmpV_ninL, cmpV_ninT, isiV, slV, revV, idxV_l, idxV_t, endF, f_law_sum, h, hn, bT]
theorem r_sum (d : Nat) (rows : List Row) (w : Nat) (g : G) (hw : w ≤ 1000) (hr : ∀ r ∈ rows, w ≤ r.length) : runF tab fns (d + 1) 25 [.lst (rows.map bT), .int (w : Int)] g = some (.v (bT (sumB rows w)), g) := r_sumI d rows w w rfl g hw hr
end NK01
end

section
set_option Elab.async false
set_option linter.all false
set_option maxRecDepth 100000
set_option maxHeartbeats 1000000
namespace NK01
open PySem Z
def chosenB {α : Type} (rows : List α) (c : Row) : List α := ((rows.zip c).filter (·.2)).map (·.1)
theorem r_chosenT {α : Type} (d : Nat) (rows : List α) (f : α → PV) (c : Row) (g : G) : runF tab fns (d + 1) 27 [.tup (rows.map f), bT c] g = some (.v (.lst ((chosenB rows c).map f)), g) := by
  rw [runF_at (f := f_law_chosen) rfl rfl]
  have h : compGo (ev tab (runF tab fns d) 58).e [.val (.tup (rows.map f)), .val (.tup (rw c)), .no, .no] (.var 2) (.tp [.nm 2, .nm 3]) (some (.cmp .eq (.var 3) (.cst (.int 1)))) g (zipP (rows.map f) (rw c)) = some (.v ((chosenB rows c).map f), g) := by
    unfold rw
    rw [zipP_map, compGo_filter (fun p => f p.1) (fun p => p.2)]
    · unfold chosenB
      rw [List.map_map]
      rfl
    · intro p _
      refine ⟨_, rfl, ?_, fun _ => rfl⟩
      have := eqB p.2
      simp [ev_b, evB1, evS1, ev_var, ev_pk, ev_cst, ev_gv, ev_gf, ev_bin, ev_neg, ev_not, ev_and, ev_or, ev_cmp, ev_isN, ev_isNN, ev_chain, ev_ite, ev_call, ev_callv, ev_bi, ev_isi, ev_mt, ev_idx, ev_sl, ev_rev, ev_tup, ev_lst, ev_comp, ev_comp2, evIt_seq, evIt_rng1, evIt_rng2, evIt_zip, evIt_enum, evL, evO, evC, evCo, bd_some, bs_some, rt_def, lf_some, nx0_some, bindT_nm, bindT_tp, bindTs_nil, bindTs_cons, wipeE, startE, setNx, setSl, slot, modV, seqV_lst, seqV_tup, zipV_ll, zipV_tt, zipV_lt, zipV_tl, enumV_lst, enumV_tup, biV_lenL, biV_lenT, biV_sumL, biV_sumT, biV_allL, biV_anyL, biV_listL, biV_listT, biV_tupL, biV_tupT, biV_intI, binV_addI, binV_subI, binV_addL, binV_addT, binV_mod, cmpV_eq, cmpV_ne, cmpV_lt, cmpV_le, cmpV_gt, cmpV_ge, cmpV_innL, cmpV_innT, cmpV_ninL, cmpV_ninT, isiV, slV, revV, idxV_l, idxV_t, endF, bI, this]
  simp [ev_b, evB1, evS1, ev_var, ev_pk, ev_cst, ev_gv, ev_gf, ev_bin, ev_neg, ev_not, ev_and, ev_or, ev_cmp, ev_isN, ev_isNN, ev_chain, ev_ite, ev_call, ev_callv, ev_bi, ev_isi, ev_mt, ev_idx, ev_sl, ev_rev, ev_tup, ev_lst, ev_comp, ev_comp2, evIt_seq, evIt_rng1, evIt_rng2, evIt_zip, evIt_enum, evL, evO, evC, evCo, bd_some, bs_some, rt_def, lf_some, nx0_some, bindT_nm, bindT_tp, bindTs_nil, bindTs_cons, wipeE, startE, setNx, setSl, slot, modV, seqV_lst, seqV_tup, zipV_ll, zipV_tt, zipV_lt, zipV_tl, enumV_lst, enumV_tup, biV_lenL, biV_lenT, biV_sumL, biV_sumT, biV_allL, biV_anyL, biV_listL, biV_listT, biV_tupL, biV_tupT, biV_intI, binV_addI, binV_subI, binV_addL, binV_addT, binV_mod, cmpV_eq, cmpV_ne, cmpV_lt, cmpV_le, cmpV_gt, cmpV_ge, cmpV_innL, cmpV_innT, cmpV_ninL, cmpV_ninT, isiV, slV, revV, idxV_l, idxV_t, endF, f_law_chosen, bT, h]
theorem r_chosenL {α : Type} (d : Nat) (rows : List α) (f : α → PV) (c : Row) (g : G) : runF tab fns (d + 1) 27 [.lst (rows.map f), bT c] g = some (.v (.lst ((chosenB rows c).map f)), g) := by
  rw [runF_at (f := f_law_chosen) rfl rfl]
  have h : compGo (ev tab (runF tab fns d) 58).e [.val (.lst (rows.map f)), .val (.tup (rw c)), .no, .no] (.var 2) (.tp [.nm 2, .nm 3]) (some (.cmp .eq (.var 3) (.cst (.int 1)))) g (zipP (rows.map f) (rw c)) = some (.v ((chosenB rows c).map f), g) := by
    unfold rw
    rw [zipP_map, compGo_filter (fun p => f p.1) (fun p => p.2)]
    · unfold chosenB
      rw [List.map_map]
      rfl
    · intro p _
      refine ⟨_, rfl, ?_, fun _ => rfl⟩
      have := eqB p.2
      simp [ev_b, evB1, evS1, ev_var, ev_pk, ev_cst, ev_gv, ev_gf, ev_bin, ev_neg, ev_not, ev_and, ev_or, ev_cmp, ev_isN, ev_isNN, ev_chain, ev_ite, ev_call, ev_callv, ev_bi, ev_isi, ev_mt, ev_idx, ev_sl, ev_rev, ev_tup, ev_lst, ev_comp, ev_comp2, evIt_seq, evIt_rng1, evIt_rng2, evIt_zip, evIt_enum, evL, evO, evC, evCo, bd_some, bs_some, rt_def, lf_some, nx0_some, bindT_nm, bindT_tp, bindTs_nil, bindTs_cons, wipeE, startE, setNx, setSl, slot, modV, seqV_lst, seqV_tup, zipV_ll, zipV_tt, zipV_lt, zipV_tl, enumV_lst, enumV_tup, biV_lenL, biV_lenT, biV_sumL, biV_sumT, biV_allL, biV_anyL, biV_listL, biV_listT, biV_tupL, biV_tupT, biV_intI, binV_addI, binV_subI, binV_addL, binV_addT, binV_mod, cmpV_eq, cmpV_ne, cmpV_lt, cmpV_le, cmpV_gt, cmpV_ge, cmpV_innL, cmpV_innT, cmpV_ninL, cmpV_ninT, isiV, slV, revV, idxV_l, idxV_t, endF, bI, this]
  simp [ev_b, evB1, evS1, ev_var, ev_pk, ev_cst, ev_gv, ev_gf, ev_bin, ev_neg, ev_not, ev_and, ev_or, ev_cmp, ev_isN, ev_isNN, ev_chain, ev_ite, ev_call, ev_callv, ev_bi, ev_isi, ev_mt, ev_idx, ev_sl, ev_rev, ev_tup, ev_lst, ev_comp, ev_comp2, evIt_seq, evIt_rng1, evIt_rng2, evIt_zip, evIt_enum, evL, evO, evC, evCo, bd_some, bs_some, rt_def, lf_some, nx0_some, bindT_nm, bindT_tp, bindTs_nil, bindTs_cons, wipeE, startE, setNx, setSl, slot, modV, seqV_lst, seqV_tup, zipV_ll, zipV_tt, zipV_lt, zipV_tl, enumV_lst, enumV_tup, biV_lenL, biV_lenT, biV_sumL, biV_sumT, biV_allL, biV_anyL, biV_listL, biV_listT, biV_tupL, biV_tupT, biV_intI, binV_addI, binV_subI, binV_addL, binV_addT, binV_mod, cmpV_eq, cmpV_ne, cmpV_lt, cmpV_le, cmpV_gt, cmpV_ge, cmpV_innL, cmpV_innT, cmpV_ninL, cmpV_ninT, isiV, slV, revV, idxV_l, idxV_t, endF, f_law_chosen, bT, h]
/-! ### all rows of so many bits -/
def allB : Nat → List Row
  | 0 => [[]]
  | n + 1 => (allB n).map (· ++ [false]) ++ (allB n).map (· ++ [true])
theorem allB_len : ∀ n, (allB n).length = 2 ^ n
  | 0 => rfl
  | n + 1 => by
    simp only [allB, List.length_append, List.length_map, allB_len n]
    omega
theorem allB_mem : ∀ (n : Nat) (r : Row), r ∈ allB n ↔ r.length = n
  | 0, r => by
    simp only [allB, List.mem_singleton]
    exact List.length_eq_zero_iff.symm
  | n + 1, r => by
    simp only [allB, List.mem_append, List.mem_map]
    constructor
    · rintro (⟨s, hs, rfl⟩ | ⟨s, hs, rfl⟩) <;> simp [(allB_mem n s).mp hs]
    · intro h
      have hne : r ≠ [] := fun e => by rw [e] at h; cases h
      have e := List.dropLast_concat_getLast hne
      have hl : r.dropLast ∈ allB n := (allB_mem n _).mpr (by rw [List.length_dropLast, h]; rfl)
      cases hb : r.getLast hne with
      | false => exact .inl ⟨_, hl, by rw [← hb]; exact e⟩
      | true => exact .inr ⟨_, hl, by rw [← hb]; exact e⟩
theorem allB_nodup : ∀ n, (allB n).Nodup
  | 0 => by simp [allB]
  | n + 1 => by
    simp only [allB]
    rw [List.nodup_append]
    have inj : ∀ b, ((allB n).map (· ++ [b])).Nodup := fun b => by
      rw [List.Nodup, List.pairwise_map]
      exact (allB_nodup n).imp fun h e => h (List.append_cancel_right e)
    refine ⟨inj false, inj true, fun a ha b hb e => ?_⟩
    obtain ⟨x, _, rfl⟩ := List.mem_map.mp ha
    obtain ⟨y, _, rfl⟩ := List.mem_map.mp hb
    have := List.append_inj_right' e rfl
    cases this
theorem r_allI (d : Nat) (m : Nat) (mi : Int) (hmi : mi = m) (g : G) (hm : m ≤ 20) : runF tab fns (d + 1) 24 [.int mi] g = some (.v (.lst ((allB m).map bT)), g) := by
  rw [runF_at (f := f_law_all) rfl rfl]
  have hn := small_n (n := m) (by omega)
  rw [← hmi] at hn
  obtain ⟨ρ', g', h1, h2⟩ := forGo_inv (b := (ev tab (runF tab fns d) 59).b) (t := .nm 2) (body := [.set false 1 (.bin .add (.comp (.bin .add (.var 3) (.tup [.cst (.int 0)])) (.nm 3) (.seq (.var 1)) .none [3]) (.comp (.bin .add (.var 3) (.tup [.cst (.int 1)])) (.nm 3) (.seq (.var 1)) .none [3]))]) (so := .nx []) (l := [])
    (fun i ρ g' => g' = g ∧ ∃ s, ρ = [.val (.int mi), .val (.lst ((allB i).map bT)), s, .no]) (rng 0 m) 0 [.val (.int mi), .val (.lst [.tup []]), .no, .no] g ⟨rfl, .no, rfl⟩ (by
    rintro j ρ g' x hx ⟨rfl, s, rfl⟩
    rw [Nat.zero_add]
    have hj : j < m := by
      have := (List.getElem?_eq_some_iff.mp hx).1
      rw [rng_length] at this
      exact this
    have c : ∀ (b : Bool) (x : PV), compGo (ev tab (runF tab fns d) 56).e [.val (.int mi), .val (.lst ((allB j).map bT)), .val x, .no] (.bin .add (.var 3) (.tup [.cst (.int (b2z b))])) (.nm 3) none g' ((allB j).map bT) = some (.v (((allB j).map (· ++ [b])).map bT), g') := by
      intro b x
      rw [compGo_map fun r => bT (r ++ [b]), List.map_map]
      · rfl
      · intro r hr
        refine ⟨_, rfl, ?_⟩
        have hl := (allB_mem j r).mp hr
        have hz : (rw r).length + 1 ≤ LIM := by
          unfold rw
          rw [List.length_map, hl]
          exact Nat.le_trans (by omega : j + 1 ≤ 21) (by decide)
        have e : rw (r ++ [b]) = rw r ++ [.int (b2z b)] := by unfold rw; rw [List.map_append]; rfl
        simp [ev_b, evB1, evS1, ev_var, ev_pk, ev_cst, ev_gv, ev_gf, ev_bin, ev_neg, ev_not, ev_and, ev_or, ev_cmp, ev_isN, ev_isNN, ev_chain, ev_ite, ev_call, ev_callv, ev_bi, ev_isi, ev_mt, ev_idx, ev_sl, ev_rev, ev_tup, ev_lst, ev_comp, ev_comp2, evIt_seq, evIt_rng1, evIt_rng2, evIt_zip, evIt_enum, evL, evO, evC, evCo, bd_some, bs_some, rt_def, lf_some, nx0_some, bindT_nm, bindT_tp, bindTs_nil, bindTs_cons, wipeE, startE, setNx, setSl, slot, modV, seqV_lst, seqV_tup, zipV_ll, zipV_tt, zipV_lt, zipV_tl, enumV_lst, enumV_tup, biV_lenL, biV_lenT, biV_sumL, biV_sumT, biV_allL, biV_anyL, biV_listL, biV_listT, biV_tupL, biV_tupT, biV_intI, binV_addI, binV_subI, binV_addL, binV_addT, binV_mod, cmpV_eq, cmpV_ne, cmpV_lt, cmpV_le, cmpV_gt, cmpV_ge, cmpV_innL, cmpV_innT, cmpV_ninL, cmpV_ninT, isiV, slV, revV, idxV_l, idxV_t, endF, bT, hz, e]
    have c0 : ∀ x, _ := fun x => c false x
    have c1 : ∀ x, _ := fun x => c true x
    have hz : (((allB j).map (· ++ [false])).map bT).length + (((allB j).map (· ++ [true])).map bT).length ≤ LIM := by
      rw [List.length_map, List.length_map, List.length_map, List.length_map, allB_len]
      have : 2 ^ j ≤ 2 ^ 20 := Nat.pow_le_pow_right (by decide) (by omega)
      exact Nat.le_trans (Nat.add_le_add this this) (by decide)
    simp only [b2z, Bool.false_eq_true, if_false, if_true] at c0 c1
    refine ⟨[.val (.int mi), .val (.lst ((allB j).map bT)), .val x, .no], [.val (.int mi), .val (.lst ((allB (j + 1)).map bT)), .val x, .no], g', rfl, .inl ?_, rfl, .val x, rfl⟩
    generalize hX : ((allB j).map (· ++ [false])).map bT = X at c0 hz
    generalize hY : ((allB j).map (· ++ [true])).map bT = Y at c1 hz
    have e2 : (allB (j + 1)).map bT = X ++ Y := by
      rw [← hX, ← hY, ← List.map_append]; rfl
    rw [e2]
    simp [ev_b, evB1, evS1, ev_var, ev_pk, ev_cst, ev_gv, ev_gf, ev_bin, ev_neg, ev_not, ev_and, ev_or, ev_cmp, ev_isN, ev_isNN, ev_chain, ev_ite, ev_call, ev_callv, ev_bi, ev_isi, ev_mt, ev_idx, ev_sl, ev_rev, ev_tup, ev_lst, ev_comp, ev_comp2, evIt_seq, evIt_rng1, evIt_rng2, evIt_zip, evIt_enum, evL, evO, evC, evCo, bd_some, bs_some, rt_def, lf_some, nx0_some, bindT_nm, bindT_tp, bindTs_nil, bindTs_cons, wipeE, startE, setNx, setSl, slot, modV, seqV_lst, seqV_tup, zipV_ll, zipV_tt, zipV_lt, zipV_tl, enumV_lst, enumV_tup, biV_lenL, biV_lenT, biV_sumL, biV_sumT, biV_allL, biV_anyL, biV_listL, biV_listT, biV_tupL, biV_tupT, biV_intI, binV_addI, binV_subI, binV_addL, binV_addT, binV_mod, cmpV_eq, cmpV_ne, cmpV_lt, cmpV_le, cmpV_gt, cmpV_ge, cmpV_innL, cmpV_innT, cmpV_ninL, cmpV_ninT, isiV, slV, revV, idxV_l, idxV_t, endF, c0, c1, hz])
  obtain ⟨rfl, s, rfl⟩ := h2
  rw [Nat.zero_add, rng_length] at h1
  simp [ev_b, evB1, evS1, ev_var, ev_pk, ev_cst, ev_gv, ev_gf, ev_bin, ev_neg, ev_not, ev_and, ev_or, ev_cmp, ev_isN, ev_isNN, ev_chain, ev_ite, ev_call, ev_callv, ev_bi, ev_isi, ev_mt, ev_idx, ev_sl, ev_rev, ev_tup, ev_lst, ev_comp, ev_comp2, evIt_seq, evIt_rng1, evIt_rng2, evIt_zip, evIt_enum, evL, evO, evC, evCo, bd_some, bs_some, rt_def, lf_some, nx0_some, bindT_nm, bindT_tp, bindTs_nil, bindTs_cons, wipeE, startE, setNx, setSl, slot, modV, seqV_lst, seqV_tup, zipV_ll, zipV_tt, zipV_lt, zipV_tl, enumV_lst, enumV_tup, biV_lenL, biV_lenT, biV_sumL, biV_sumT, biV_allL, biV_anyL, biV_listL, biV_listT, biV_tupL, biV_tupT, biV_intI, binV_addI, binV_subI, binV_addL, binV_addT, binV_mod, cmpV_eq, cmpV_ne, cmpV_lt, cmpV_le, cmpV_gt, cmpV_ge, cmpV_innL, cmpV_innT, cmpV_ninL, cmpV_ninT, isiV, slV, revV, idxV_l, idxV_t, endF, f_law_all, hn, h1]
end NK01
end

section
set_option Elab.async false
set_option linter.all false
set_option maxRecDepth 100000
set_option maxHeartbeats 1000000
namespace NK01
open PySem Z
theorem eqvI (i j : Int) : (PV.int i).eqv (.int j) = (i == j) := by simp only [PV.eqv]
theorem inI (i j k : Int) : inV (.int i) [.int j, .int k] = ((j == i) || (k == i)) := by
  show ((PV.int j).eqv (.int i) || ((PV.int k).eqv (.int i) || false)) = _
  rw [eqvI, eqvI, Bool.or_false]
theorem okI (n : Nat) (i : Int) : (PV.int i).okd n = true := by simp only [PV.okd]
theorem oksI (n : Nat) (i j : Int) : okds n [.int i, .int j] = true := by
  show ((PV.int i).okd n && ((PV.int j).okd n && true)) = true
  rw [okI, okI]; rfl
theorem okds_rw (n : Nat) (r : Row) : okds n (rw r) = true := by
  unfold okds rw
  rw [List.all_eq_true]
  intro x hx
  obtain ⟨b, _, rfl⟩ := List.mem_map.mp hx
  cases n <;> rfl
theorem okd_bT (n : Nat) (r : Row) : (bT r).okd (n + 1) = true := okds_rw n r
theorem okd_rows (l : List Row) : (PV.lst (l.map bT)).okd DEEP = true := by
  show (l.map bT).all (PV.okd 39) = true
  rw [List.all_eq_true]
  intro x hx
  obtain ⟨r, _, rfl⟩ := List.mem_map.mp hx
  exact okd_bT 38 r
theorem okd_rowsT (l : List Row) : (PV.tup (l.map bT)).okd DEEP = true := okd_rows l
theorem inV_rw : ∀ r : Row, inV (.int 1) (rw r) = r.any id
  | [] => rfl
  | b :: r => by
    show ((bI b).eqv (.int 1) || inV (.int 1) (rw r)) = (b || r.any id)
    rw [inV_rw r]
    cases b <;> rfl
theorem eqE {l : List PV} (h : (PV.lst l).okd DEEP = true) : eqV (.lst l) (.lst []) = some l.isEmpty := by
  unfold eqV
  rw [h]
  cases l <;> rfl
def apartB (rows : List Row) (w : Nat) : Bool := ((allB rows.length).filter fun c => c.any id && !(sumB (chosenB rows c) w).any id).isEmpty
theorem chosen_sub {α : Type} {rows : List α} {c : Row} : ∀ r ∈ chosenB rows c, r ∈ rows := by
  intro r h
  unfold chosenB at h
  obtain ⟨p, hp, rfl⟩ := List.mem_map.mp h
  exact (List.of_mem_zip (List.mem_filter.mp hp).1).1
theorem r_apartI (t : Bool) (d : Nat) (rows : List Row) (w : Nat) (wi : Int) (hwi : wi = w) (g : G) (hw : w ≤ 1000) (hl : rows.length ≤ 20) (hr : ∀ r ∈ rows, w ≤ r.length) : runF tab fns (d + 2) 28 [(if t then .tup (rows.map bT) else .lst (rows.map bT)), .int wi] g = some (.v (.bl (apartB rows w)), g) := by
  rw [runF_at (f := f_law_apart) rfl rfl]
  obtain ⟨rp, hrp⟩ : ∃ rp : PV, rp = (if t then .tup (rows.map bT) else .lst (rows.map bT)) := ⟨_, rfl⟩
  rw [← hrp]
  obtain ⟨li, hli⟩ : ∃ li : Int, li = rows.length := ⟨_, rfl⟩
  have h0 := r_allI d rows.length li hli g hl
  have hch : ∀ c, runF tab fns (d + 1) 27 [rp, bT c] g = some (.v (.lst ((chosenB rows c).map bT)), g) := fun c => by
    rw [hrp]
    cases t with
    | true => exact r_chosenT d rows bT c g
    | false => exact r_chosenL d rows bT c g
  have hlen : biV .len rp = some (.int li) := by
    rw [hrp, hli]
    cases t <;> simp [biV]
  have h : compGo (ev tab (runF tab fns (d + 1)) 57).e [.val rp, .val (.int wi), .no] (.var 2) (.nm 2) (some (.and (.cmp .inn (.cst (.int 1)) (.var 2)) (.cmp .nin (.cst (.int 1)) (.call 25 [.call 27 [.var 0, .var 2], .var 1])))) g ((allB rows.length).map bT) =
      some (.v (((allB rows.length).filter fun c => c.any id && !(sumB (chosenB rows c) w).any id).map bT), g) := by
    rw [compGo_filter bT (fun c => c.any id && !(sumB (chosenB rows c) w).any id)]
    intro c hc
    refine ⟨_, rfl, ?_, fun _ => rfl⟩
    have h1 := hch c
    have h2 := r_sumI d (chosenB rows c) w wi hwi g hw fun r h => hr r (chosen_sub r h)
    have k1 := okds_rw DEEP c
    have k2 := okds_rw DEEP (sumB (chosenB rows c) w)
    have k3 := inV_rw c
    have k4 := inV_rw (sumB (chosenB rows c) w)
    generalize (sumB (chosenB rows c) w) = y at h2 k2 k4 ⊢
    simp only [bT] at h1 h2 ⊢
    cases hb : c.any id with
    | false =>
      rw [hb] at k3
      simp [ev_b, evB1, evS1, ev_var, ev_pk, ev_cst, ev_gv, ev_gf, ev_bin, ev_neg, ev_not, ev_and, ev_or, ev_cmp, ev_isN, ev_isNN, ev_chain, ev_ite, ev_call, ev_callv, ev_bi, ev_isi, ev_mt, ev_idx, ev_sl, ev_rev, ev_tup, ev_lst, ev_comp, ev_comp2, evIt_seq, evIt_rng1, evIt_rng2, evIt_zip, evIt_enum, evL, evO, evC, evCo, bd_some, bs_some, rt_def, lf_some, nx0_some, bindT_nm, bindT_tp, bindTs_nil, bindTs_cons, wipeE, startE, setNx, setSl, slot, modV, seqV_lst, seqV_tup, zipV_ll, zipV_tt, zipV_lt, zipV_tl, enumV_lst, enumV_tup, biV_lenL, biV_lenT, biV_sumL, biV_sumT, biV_allL, biV_anyL, biV_listL, biV_listT, biV_tupL, biV_tupT, biV_intI, binV_addI, binV_subI, binV_addL, binV_addT, binV_mod, cmpV_eq, cmpV_ne, cmpV_lt, cmpV_le, cmpV_gt, cmpV_ge, cmpV_innL, cmpV_innT, cmpV_ninL, cmpV_ninT, isiV, slV, revV, idxV_l, idxV_t, endF, h1, h2, k1, k3, okI]
    | true =>
      rw [hb] at k3
      simp [ev_b, evB1, evS1, ev_var, ev_pk, ev_cst, ev_gv, ev_gf, ev_bin, ev_neg, ev_not, ev_and, ev_or, ev_cmp, ev_isN, ev_isNN, ev_chain, ev_ite, ev_call, ev_callv, ev_bi, ev_isi, ev_mt, ev_idx, ev_sl, ev_rev, ev_tup, ev_lst, ev_comp, ev_comp2, evIt_seq, evIt_rng1, evIt_rng2, evIt_zip, evIt_enum, evL, evO, evC, evCo, bd_some, bs_some, rt_def, lf_some, nx0_some, bindT_nm, bindT_tp, bindTs_nil, bindTs_cons, wipeE, startE, setNx, setSl, slot, modV, seqV_lst, seqV_tup, zipV_ll, zipV_tt, zipV_lt, zipV_tl, enumV_lst, enumV_tup, biV_lenL, biV_lenT, biV_sumL, biV_sumT, biV_allL, biV_anyL, biV_listL, biV_listT, biV_tupL, biV_tupT, biV_intI, binV_addI, binV_subI, binV_addL, binV_addT, binV_mod, cmpV_eq, cmpV_ne, cmpV_lt, cmpV_le, cmpV_gt, cmpV_ge, cmpV_innL, cmpV_innT, cmpV_ninL, cmpV_ninT, isiV, slV, revV, idxV_l, idxV_t, endF, h1, h2, k1, k2, k3, k4, okI]
  have he := eqE (okd_rows ((allB rows.length).filter fun c => c.any id && !(sumB (chosenB rows c) w).any id))
  have hiso : (((allB rows.length).filter fun c => c.any id && !(sumB (chosenB rows c) w).any id).map bT).isEmpty = apartB rows w := by
    unfold apartB
    rw [List.isEmpty_map]
  rw [hiso] at he
  generalize hX : (((allB rows.length).filter fun c => c.any id && !(sumB (chosenB rows c) w).any id).map bT) = X at h he
  generalize hA : ((allB rows.length).map bT) = A at h h0
  have hl' : (ev tab (runF tab fns (d + 1)) 56).e [.val rp, .val (.int wi), .no] g (.bi .len (.var 0)) = some (.v (.int li), g) := by
    rw [ev_bi, ev_var]
    simp [rt_def, bd_some, hlen, lf_some]
  rw [show f_law_apart.body = [.ret (.cmp .eq (.comp (.var 2) (.nm 2) (.seq (.call 24 [.bi .len (.var 0)])) (.some (.and (.cmp .inn (.cst (.int 1)) (.var 2)) (.cmp .nin (.cst (.int 1)) (.call 25 [.call 27 [.var 0, .var 2], .var 1])))) [2]) (.lst []))] from rfl]
  generalize hC : E.bi .len (.var 0) = cc at hl' ⊢
  have hN : f_law_apart.names.length = 3 := rfl
  rw [hN]
  simp [ev_b, evB1, evS1, ev_var, ev_pk, ev_cst, ev_gv, ev_gf, ev_bin, ev_neg, ev_not, ev_and, ev_or, ev_cmp, ev_isN, ev_isNN, ev_chain, ev_ite, ev_call, ev_callv, ev_bi, ev_isi, ev_mt, ev_idx, ev_sl, ev_rev, ev_tup, ev_lst, ev_comp, ev_comp2, evIt_seq, evIt_rng1, evIt_rng2, evIt_zip, evIt_enum, evL, evO, evC, evCo, bd_some, bs_some, rt_def, lf_some, nx0_some, bindT_nm, bindT_tp, bindTs_nil, bindTs_cons, wipeE, startE, setNx, setSl, slot, modV, seqV_lst, seqV_tup, zipV_ll, zipV_tt, zipV_lt, zipV_tl, enumV_lst, enumV_tup, biV_lenL, biV_lenT, biV_sumL, biV_sumT, biV_allL, biV_anyL, biV_listL, biV_listT, biV_tupL, biV_tupT, biV_intI, binV_addI, binV_subI, binV_addL, binV_addT, binV_mod, cmpV_eq, cmpV_ne, cmpV_lt, cmpV_le, cmpV_gt, cmpV_ge, cmpV_innL, cmpV_innT, cmpV_ninL, cmpV_ninT, isiV, slV, revV, idxV_l, idxV_t, endF, hl', h0, h, he, flatP]
theorem r_apartT (d : Nat) (rows : List Row) (w : Nat) (wi : Int) (hwi : wi = w) (g : G) (hw : w ≤ 1000) (hl : rows.length ≤ 20) (hr : ∀ r ∈ rows, w ≤ r.length) : runF tab fns (d + 2) 28 [.tup (rows.map bT), .int wi] g = some (.v (.bl (apartB rows w)), g) := r_apartI true d rows w wi hwi g hw hl hr
theorem r_apartL (d : Nat) (rows : List Row) (w : Nat) (wi : Int) (hwi : wi = w) (g : G) (hw : w ≤ 1000) (hl : rows.length ≤ 20) (hr : ∀ r ∈ rows, w ≤ r.length) : runF tab fns (d + 2) 28 [.lst (rows.map bT), .int wi] g = some (.v (.bl (apartB rows w)), g) := r_apartI false d rows w wi hwi g hw hl hr
/-! ### bits -/
def bad : PV → Bool
  | .int i => !(((0 : Int) == i) || ((1 : Int) == i))
  | _ => true
def isBits (v : PV) (many : Int) : Bool := match v with
  | .tup l => decide ((l.length : Int) = many) && !l.any bad
  | _ => false
theorem r_is_bits (d : Nat) (v : PV) (many : Int) (g : G) (hv : top v = true) (hs : ∀ l, v = .tup l → ∀ x ∈ l, sca x = true) : runF tab fns (d + 1) 29 [v, .int many] g = some (.v (.bl (isBits v many)), g) := by
  rw [runF_at (f := f_law_is_bits) rfl rfl]
  cases v with
  | tup l =>
    have h : compGo (ev tab (runF tab fns d) 57).e [.val (.tup l), .val (.int many), .no] (.var 2) (.nm 2) (some (.or (.not (.isi .int (.var 2))) (.or (.isi .bool (.var 2)) (.cmp .nin (.var 2) (.tup [.cst (.int 0), .cst (.int 1)]))))) g l = some (.v (l.filter bad), g) := by
      have q := compGo_filter (e := (ev tab (runF tab fns d) 57).e) (ρ := [.val (.tup l), .val (.int many), .no]) (elt := .var 2) (t := .nm 2) (g := g) (mk := fun x => x) (fun x => x) bad (cc := .or (.not (.isi .int (.var 2))) (.or (.isi .bool (.var 2)) (.cmp .nin (.var 2) (.tup [.cst (.int 0), .cst (.int 1)])))) (l := l) fun x hx => ⟨_, rfl, (by
        have hx := hs l rfl x hx
        cases x with
        | int i => simp [ev_b, evB1, evS1, ev_var, ev_pk, ev_cst, ev_gv, ev_gf, ev_bin, ev_neg, ev_not, ev_and, ev_or, ev_cmp, ev_isN, ev_isNN, ev_chain, ev_ite, ev_call, ev_callv, ev_bi, ev_isi, ev_mt, ev_idx, ev_sl, ev_rev, ev_tup, ev_lst, ev_comp, ev_comp2, evIt_seq, evIt_rng1, evIt_rng2, evIt_zip, evIt_enum, evL, evO, evC, evCo, bd_some, bs_some, rt_def, lf_some, nx0_some, bindT_nm, bindT_tp, bindTs_nil, bindTs_cons, wipeE, startE, setNx, setSl, slot, modV, seqV_lst, seqV_tup, zipV_ll, zipV_tt, zipV_lt, zipV_tl, enumV_lst, enumV_tup, biV_lenL, biV_lenT, biV_sumL, biV_sumT, biV_allL, biV_anyL, biV_listL, biV_listT, biV_tupL, biV_tupT, biV_intI, binV_addI, binV_subI, binV_addL, binV_addT, binV_mod, cmpV_eq, cmpV_ne, cmpV_lt, cmpV_le, cmpV_gt, cmpV_ge, cmpV_innL, cmpV_innT, cmpV_ninL, cmpV_ninT, isiV, slV, revV, idxV_l, idxV_t, endF, okI, oksI, inI, bad]
        | bl b => simp [ev_b, evB1, evS1, ev_var, ev_pk, ev_cst, ev_gv, ev_gf, ev_bin, ev_neg, ev_not, ev_and, ev_or, ev_cmp, ev_isN, ev_isNN, ev_chain, ev_ite, ev_call, ev_callv, ev_bi, ev_isi, ev_mt, ev_idx, ev_sl, ev_rev, ev_tup, ev_lst, ev_comp, ev_comp2, evIt_seq, evIt_rng1, evIt_rng2, evIt_zip, evIt_enum, evL, evO, evC, evCo, bd_some, bs_some, rt_def, lf_some, nx0_some, bindT_nm, bindT_tp, bindTs_nil, bindTs_cons, wipeE, startE, setNx, setSl, slot, modV, seqV_lst, seqV_tup, zipV_ll, zipV_tt, zipV_lt, zipV_tl, enumV_lst, enumV_tup, biV_lenL, biV_lenT, biV_sumL, biV_sumT, biV_allL, biV_anyL, biV_listL, biV_listT, biV_tupL, biV_tupT, biV_intI, binV_addI, binV_subI, binV_addL, binV_addT, binV_mod, cmpV_eq, cmpV_ne, cmpV_lt, cmpV_le, cmpV_gt, cmpV_ge, cmpV_innL, cmpV_innT, cmpV_ninL, cmpV_ninT, isiV, slV, revV, idxV_l, idxV_t, endF, bad]
        | _ => exact absurd hx (by simp [sca])), fun _ => rfl⟩
      rw [List.map_id', List.map_id'] at q
      exact q
    have hk : (PV.lst (l.filter bad)).okd DEEP = true := by
      show (l.filter bad).all (PV.okd 39) = true
      rw [List.all_eq_true]
      intro x hx
      have := hs l rfl x (List.mem_filter.mp hx).1
      cases x <;> first | rfl | cases this
    have he := eqE hk
    have hiso : (l.filter bad).isEmpty = !l.any bad := by
      cases hb : l.any bad with
      | true =>
        obtain ⟨x, hx, hbx⟩ := List.any_eq_true.mp hb
        have : x ∈ l.filter bad := List.mem_filter.mpr ⟨hx, hbx⟩
        cases hq : l.filter bad with
        | nil => rw [hq] at this; cases this
        | cons _ _ => rfl
      | false =>
        have : l.filter bad = [] := by
          rw [List.filter_eq_nil_iff]
          intro x hx hbx
          have : l.any bad = true := List.any_eq_true.mpr ⟨x, hx, hbx⟩
          rw [hb] at this; cases this
        rw [this]; rfl
    rw [hiso] at he
    obtain ⟨li, hli⟩ : ∃ li : Int, li = l.length := ⟨_, rfl⟩
    have hlen : biV .len (.tup l) = some (.int li) := by rw [hli]; rfl
    have hN : f_law_is_bits.names.length = 3 := rfl
    rw [hN]
    simp only [isBits]
    rw [← hli]
    generalize hX : l.filter bad = X at h he
    generalize hY : l.any bad = Y at he ⊢
    have hlen2 : (ev tab (runF tab fns d) 57).e [.val (.tup l), .val (.int many), .no] g (.bi .len (.var 0)) = some (.v (.int li), g) := by
      rw [ev_bi, ev_var]
      simp [rt_def, bd_some, hlen, lf_some]
    have hq : eqV (.int li) (.int many) = some (li == many) := rfl
    rw [show f_law_is_bits.body = [.ite (.or (.not (.isi .tuple (.var 0))) (.cmp .ne (.bi .len (.var 0)) (.var 1))) [.ret (.cst (.bl false))] [], .ret (.cmp .eq (.comp (.var 2) (.nm 2) (.seq (.var 0)) (.some (.or (.not (.isi .int (.var 2))) (.or (.isi .bool (.var 2)) (.cmp .nin (.var 2) (.tup [.cst (.int 0), .cst (.int 1)]))))) [2]) (.lst []))] from rfl]
    generalize hC : E.bi .len (.var 0) = cc at hlen2 ⊢
    by_cases e : li = many
    · have e' : (li == many) = true := beq_iff_eq.mpr e
      rw [e'] at hq
      rw [show decide (li = many) = true from decide_eq_true e]
      simp [ev_b, evB1, evS1, ev_var, ev_pk, ev_cst, ev_gv, ev_gf, ev_bin, ev_neg, ev_not, ev_and, ev_or, ev_cmp, ev_isN, ev_isNN, ev_chain, ev_ite, ev_call, ev_callv, ev_bi, ev_isi, ev_mt, ev_idx, ev_sl, ev_rev, ev_tup, ev_lst, ev_comp, ev_comp2, evIt_seq, evIt_rng1, evIt_rng2, evIt_zip, evIt_enum, evL, evO, evC, evCo, bd_some, bs_some, rt_def, lf_some, nx0_some, bindT_nm, bindT_tp, bindTs_nil, bindTs_cons, wipeE, startE, setNx, setSl, slot, modV, seqV_lst, seqV_tup, zipV_ll, zipV_tt, zipV_lt, zipV_tl, enumV_lst, enumV_tup, biV_lenL, biV_lenT, biV_sumL, biV_sumT, biV_allL, biV_anyL, biV_listL, biV_listT, biV_tupL, biV_tupT, biV_intI, binV_addI, binV_subI, binV_addL, binV_addT, binV_mod, cmpV_eq, cmpV_ne, cmpV_lt, cmpV_le, cmpV_gt, cmpV_ge, cmpV_innL, cmpV_innT, cmpV_ninL, cmpV_ninT, isiV, slV, revV, idxV_l, idxV_t, endF, hlen2, hq, h, he, flatP]
    · have e' : (li == many) = false := beq_eq_false_iff_ne.mpr e
      rw [e'] at hq
      rw [show decide (li = many) = false from decide_eq_false e]
      simp [ev_b, evB1, evS1, ev_var, ev_pk, ev_cst, ev_gv, ev_gf, ev_bin, ev_neg, ev_not, ev_and, ev_or, ev_cmp, ev_isN, ev_isNN, ev_chain, ev_ite, ev_call, ev_callv, ev_bi, ev_isi, ev_mt, ev_idx, ev_sl, ev_rev, ev_tup, ev_lst, ev_comp, ev_comp2, evIt_seq, evIt_rng1, evIt_rng2, evIt_zip, evIt_enum, evL, evO, evC, evCo, bd_some, bs_some, rt_def, lf_some, nx0_some, bindT_nm, bindT_tp, bindTs_nil, bindTs_cons, wipeE, startE, setNx, setSl, slot, modV, seqV_lst, seqV_tup, zipV_ll, zipV_tt, zipV_lt, zipV_tl, enumV_lst, enumV_tup, biV_lenL, biV_lenT, biV_sumL, biV_sumT, biV_allL, biV_anyL, biV_listL, biV_listT, biV_tupL, biV_tupT, biV_intI, binV_addI, binV_subI, binV_addL, binV_addT, binV_mod, cmpV_eq, cmpV_ne, cmpV_lt, cmpV_le, cmpV_gt, cmpV_ge, cmpV_innL, cmpV_innT, cmpV_ninL, cmpV_ninT, isiV, slV, revV, idxV_l, idxV_t, endF, hlen2, hq, flatP]
  | dic _ => cases hv
  | fn _ => cases hv
  | cell _ => cases hv
  | scr _ => cases hv
  | _ => simp [ev_b, evB1, evS1, ev_var, ev_pk, ev_cst, ev_gv, ev_gf, ev_bin, ev_neg, ev_not, ev_and, ev_or, ev_cmp, ev_isN, ev_isNN, ev_chain, ev_ite, ev_call, ev_callv, ev_bi, ev_isi, ev_mt, ev_idx, ev_sl, ev_rev, ev_tup, ev_lst, ev_comp, ev_comp2, evIt_seq, evIt_rng1, evIt_rng2, evIt_zip, evIt_enum, evL, evO, evC, evCo, bd_some, bs_some, rt_def, lf_some, nx0_some, bindT_nm, bindT_tp, bindTs_nil, bindTs_cons, wipeE, startE, setNx, setSl, slot, modV, seqV_lst, seqV_tup, zipV_ll, zipV_tt, zipV_lt, zipV_tl, enumV_lst, enumV_tup, biV_lenL, biV_lenT, biV_sumL, biV_sumT, biV_allL, biV_anyL, biV_listL, biV_listT, biV_tupL, biV_tupT, biV_intI, binV_addI, binV_subI, binV_addL, binV_addT, binV_mod, cmpV_eq, cmpV_ne, cmpV_lt, cmpV_le, cmpV_gt, cmpV_ge, cmpV_innL, cmpV_innT, cmpV_ninL, cmpV_ninT, isiV, slV, revV, idxV_l, idxV_t, endF, f_law_is_bits, isBits, flatP]
end NK01
end

section
set_option Elab.async false
set_option linter.all false
set_option maxRecDepth 100000
set_option maxHeartbeats 1000000
namespace NK01
open PySem Z
/-! ### like -/
def sortV : PV → Int
  | .non => 0 | .bl _ => 1 | .int _ => 2 | .str _ => 3 | .tup _ => 4 | .lst _ => 5 | _ => 6
theorem r_sort (d : Nat) (v : PV) (g : G) (hv : top v = true) : runF tab fns (d + 1) 22 [v] g = some (.v (.int (sortV v)), g) := by
  rw [runF_at (f := f_law_sort) rfl rfl]
  cases v with
  | dic _ => cases hv
  | fn _ => cases hv
  | cell _ => cases hv
  | scr _ => cases hv
  | _ => simp [ev_b, evB1, evS1, ev_var, ev_pk, ev_cst, ev_gv, ev_gf, ev_bin, ev_neg, ev_not, ev_and, ev_or, ev_cmp, ev_isN, ev_isNN, ev_chain, ev_ite, ev_call, ev_callv, ev_bi, ev_isi, ev_mt, ev_idx, ev_sl, ev_rev, ev_tup, ev_lst, ev_comp, ev_comp2, evIt_seq, evIt_rng1, evIt_rng2, evIt_zip, evIt_enum, evL, evO, evC, evCo, bd_some, bs_some, rt_def, lf_some, nx0_some, bindT_nm, bindT_tp, bindTs_nil, bindTs_cons, wipeE, startE, setNx, setSl, slot, modV, seqV_lst, seqV_tup, zipV_ll, zipV_tt, zipV_lt, zipV_tl, enumV_lst, enumV_tup, biV_lenL, biV_lenT, biV_sumL, biV_sumT, biV_allL, biV_anyL, biV_listL, biV_listT, biV_tupL, biV_tupT, biV_intI, binV_addI, binV_subI, binV_addL, binV_addT, binV_mod, cmpV_eq, cmpV_ne, cmpV_lt, cmpV_le, cmpV_gt, cmpV_ge, cmpV_innL, cmpV_innT, cmpV_ninL, cmpV_ninT, isiV, slV, revV, idxV_l, idxV_t, endF, f_law_sort, sortV, flatP]
theorem eqVI (i j : Int) : eqV (.int i) (.int j) = some (i == j) := by
  unfold eqV
  rw [okI, okI, eqvI]; rfl
theorem r_like_int (d : Nat) (i j : Int) (g : G) : runF tab fns (d + 2) 23 [.int i, .int j] g = some (.v (.bl (i == j)), g) := by
  rw [runF_at (f := f_law_like) rfl rfl]
  have h1 := r_sort d (.int i) g rfl
  have h2 := r_sort d (.int j) g rfl
  simp only [sortV] at h1 h2
  simp [ev_b, evB1, evS1, ev_var, ev_pk, ev_cst, ev_gv, ev_gf, ev_bin, ev_neg, ev_not, ev_and, ev_or, ev_cmp, ev_isN, ev_isNN, ev_chain, ev_ite, ev_call, ev_callv, ev_bi, ev_isi, ev_mt, ev_idx, ev_sl, ev_rev, ev_tup, ev_lst, ev_comp, ev_comp2, evIt_seq, evIt_rng1, evIt_rng2, evIt_zip, evIt_enum, evL, evO, evC, evCo, bd_some, bs_some, rt_def, lf_some, nx0_some, bindT_nm, bindT_tp, bindTs_nil, bindTs_cons, wipeE, startE, setNx, setSl, slot, modV, seqV_lst, seqV_tup, zipV_ll, zipV_tt, zipV_lt, zipV_tl, enumV_lst, enumV_tup, biV_lenL, biV_lenT, biV_sumL, biV_sumT, biV_allL, biV_anyL, biV_listL, biV_listT, biV_tupL, biV_tupT, biV_intI, binV_addI, binV_subI, binV_addL, binV_addT, binV_mod, cmpV_eq, cmpV_ne, cmpV_lt, cmpV_le, cmpV_gt, cmpV_ge, cmpV_innL, cmpV_innT, cmpV_ninL, cmpV_ninT, isiV, slV, revV, idxV_l, idxV_t, endF, f_law_like, h1, h2, eqVI, okI, oksI, inI, flatP]
theorem r_like_bl (d : Nat) (a b : Bool) (g : G) : runF tab fns (d + 2) 23 [.bl a, .bl b] g = some (.v (.bl (a == b)), g) := by
  rw [runF_at (f := f_law_like) rfl rfl]
  have h1 := r_sort d (.bl a) g rfl
  have h2 := r_sort d (.bl b) g rfl
  simp only [sortV] at h1 h2
  have h3 : eqV (.bl a) (.bl b) = some (a == b) := by cases a <;> cases b <;> rfl
  simp [ev_b, evB1, evS1, ev_var, ev_pk, ev_cst, ev_gv, ev_gf, ev_bin, ev_neg, ev_not, ev_and, ev_or, ev_cmp, ev_isN, ev_isNN, ev_chain, ev_ite, ev_call, ev_callv, ev_bi, ev_isi, ev_mt, ev_idx, ev_sl, ev_rev, ev_tup, ev_lst, ev_comp, ev_comp2, evIt_seq, evIt_rng1, evIt_rng2, evIt_zip, evIt_enum, evL, evO, evC, evCo, bd_some, bs_some, rt_def, lf_some, nx0_some, bindT_nm, bindT_tp, bindTs_nil, bindTs_cons, wipeE, startE, setNx, setSl, slot, modV, seqV_lst, seqV_tup, zipV_ll, zipV_tt, zipV_lt, zipV_tl, enumV_lst, enumV_tup, biV_lenL, biV_lenT, biV_sumL, biV_sumT, biV_allL, biV_anyL, biV_listL, biV_listT, biV_tupL, biV_tupT, biV_intI, binV_addI, binV_subI, binV_addL, binV_addT, binV_mod, cmpV_eq, cmpV_ne, cmpV_lt, cmpV_le, cmpV_gt, cmpV_ge, cmpV_innL, cmpV_innT, cmpV_ninL, cmpV_ninT, isiV, slV, revV, idxV_l, idxV_t, endF, f_law_like, h1, h2, h3, eqVI, okI, oksI, inI, flatP]
theorem r_like_lst (d : Nat) (xs ys : List PV) (P : PV × PV → Bool) (g : G) (hl : xs.length = ys.length) (h : ∀ p ∈ xs.zip ys, runF tab fns (d + 2) 23 [p.1, p.2] g = some (.v (.bl (P p)), g)) :
    runF tab fns (d + 3) 23 [.lst xs, .lst ys] g = some (.v (.bl ((xs.zip ys).all P)), g) := by
  rw [runF_at (f := f_law_like) rfl rfl]
  have h1 := r_sort (d + 1) (.lst xs) g rfl
  have h2 := r_sort (d + 1) (.lst ys) g rfl
  simp only [sortV] at h1 h2
  have hc : compGo (ev tab (runF tab fns (d + 2)) 55).e [.val (.lst xs), .val (.lst ys), .val (.int 5), .no, .no] (.cst (.int 1)) (.tp [.nm 3, .nm 4]) (some (.not (.call 23 [.var 3, .var 4]))) g (zipP xs ys) = some (.v (((xs.zip ys).filter fun p => !P p).map fun _ => .int 1), g) := by
    have e : zipP xs ys = (xs.zip ys).map fun p => .tup [p.1, p.2] := by
      have := zipP_map (fun x : PV => x) (fun x : PV => x) xs ys
      rw [List.map_id', List.map_id'] at this
      exact this
    rw [e, compGo_filter (fun _ => .int 1) (fun p => !P p)]
    intro p hp
    refine ⟨_, rfl, ?_, fun _ => rfl⟩
    have := h p hp
    simp [ev_b, evB1, evS1, ev_var, ev_pk, ev_cst, ev_gv, ev_gf, ev_bin, ev_neg, ev_not, ev_and, ev_or, ev_cmp, ev_isN, ev_isNN, ev_chain, ev_ite, ev_call, ev_callv, ev_bi, ev_isi, ev_mt, ev_idx, ev_sl, ev_rev, ev_tup, ev_lst, ev_comp, ev_comp2, evIt_seq, evIt_rng1, evIt_rng2, evIt_zip, evIt_enum, evL, evO, evC, evCo, bd_some, bs_some, rt_def, lf_some, nx0_some, bindT_nm, bindT_tp, bindTs_nil, bindTs_cons, wipeE, startE, setNx, setSl, slot, modV, seqV_lst, seqV_tup, zipV_ll, zipV_tt, zipV_lt, zipV_tl, enumV_lst, enumV_tup, biV_lenL, biV_lenT, biV_sumL, biV_sumT, biV_allL, biV_anyL, biV_listL, biV_listT, biV_tupL, biV_tupT, biV_intI, binV_addI, binV_subI, binV_addL, binV_addT, binV_mod, cmpV_eq, cmpV_ne, cmpV_lt, cmpV_le, cmpV_gt, cmpV_ge, cmpV_innL, cmpV_innT, cmpV_ninL, cmpV_ninT, isiV, slV, revV, idxV_l, idxV_t, endF, this]
  have hk : (PV.lst (((xs.zip ys).filter fun p => !P p).map fun _ => PV.int 1)).okd DEEP = true := by
    show (((xs.zip ys).filter fun p => !P p).map fun _ => PV.int 1).all (PV.okd 39) = true
    rw [List.all_eq_true]
    intro x hx
    obtain ⟨_, _, rfl⟩ := List.mem_map.mp hx
    rfl
  have he := eqE hk
  have hiso : (((xs.zip ys).filter fun p => !P p).map fun _ => PV.int 1).isEmpty = (xs.zip ys).all P := by
    rw [List.isEmpty_map]
    generalize xs.zip ys = l
    induction l with
    | nil => rfl
    | cons p l ih =>
      rw [List.filter_cons, List.all_cons]
      cases hP : P p with
      | true => simpa using ih
      | false => rfl
  rw [hiso] at he
  have hq : ∀ z : Int, eqV (.int z) (.int z) = some true := fun z => by rw [eqVI, beq_self_eq_true]
  obtain ⟨li, hli⟩ : ∃ li : Int, li = xs.length := ⟨_, rfl⟩
  have hlx : ∀ n, (ev tab (runF tab fns (d + 2)) (n + 2)).e [.val (.lst xs), .val (.lst ys), .val (.int 5), .no, .no] g (.bi .len (.var 0)) = some (.v (.int li), g) := fun n => by
    rw [ev_bi, ev_var, hli]; rfl
  have hly : ∀ n, (ev tab (runF tab fns (d + 2)) (n + 2)).e [.val (.lst xs), .val (.lst ys), .val (.int 5), .no, .no] g (.bi .len (.var 1)) = some (.v (.int li), g) := fun n => by
    rw [ev_bi, ev_var, hli, hl]; rfl
  generalize (((xs.zip ys).filter fun p => !P p).map fun _ => PV.int 1) = X at hc he
  rw [show f_law_like.body = [.set false 2 (.call 22 [.var 1]), .ite (.or (.cmp .ne (.call 22 [.var 0]) (.var 2)) (.cmp .eq (.var 2) (.cst (.int 6)))) [.ret (.cst (.bl false))] [], .ite (.cmp .inn (.var 2) (.tup [.cst (.int 4), .cst (.int 5)])) [.ret (.and (.cmp .eq (.bi .len (.var 0)) (.bi .len (.var 1))) (.cmp .eq (.comp (.cst (.int 1)) (.tp [.nm 3, .nm 4]) (.zip (.var 0) (.var 1)) (.some (.not (.call 23 [.var 3, .var 4]))) [3, 4]) (.lst [])))] [], .ret (.cmp .eq (.var 0) (.var 1))] from rfl]
  generalize hC : E.bi .len (.var 0) = cc at hlx ⊢
  generalize hD : E.bi .len (.var 1) = dd at hly ⊢
  have hN : f_law_like.names.length = 5 := rfl
  rw [hN]
  simp [ev_b, evB1, evS1, ev_var, ev_pk, ev_cst, ev_gv, ev_gf, ev_bin, ev_neg, ev_not, ev_and, ev_or, ev_cmp, ev_isN, ev_isNN, ev_chain, ev_ite, ev_call, ev_callv, ev_bi, ev_isi, ev_mt, ev_idx, ev_sl, ev_rev, ev_tup, ev_lst, ev_comp, ev_comp2, evIt_seq, evIt_rng1, evIt_rng2, evIt_zip, evIt_enum, evL, evO, evC, evCo, bd_some, bs_some, rt_def, lf_some, nx0_some, bindT_nm, bindT_tp, bindTs_nil, bindTs_cons, wipeE, startE, setNx, setSl, slot, modV, seqV_lst, seqV_tup, zipV_ll, zipV_tt, zipV_lt, zipV_tl, enumV_lst, enumV_tup, biV_lenL, biV_lenT, biV_sumL, biV_sumT, biV_allL, biV_anyL, biV_listL, biV_listT, biV_tupL, biV_tupT, biV_intI, binV_addI, binV_subI, binV_addL, binV_addT, binV_mod, cmpV_eq, cmpV_ne, cmpV_lt, cmpV_le, cmpV_gt, cmpV_ge, cmpV_innL, cmpV_innT, cmpV_ninL, cmpV_ninT, isiV, slV, revV, idxV_l, idxV_t, endF, h1, h2, hc, he, hq, hlx, hly, eqVI, okI, oksI, inI, flatP]
end NK01
end

section
set_option Elab.async false
set_option linter.all false
set_option maxRecDepth 100000
set_option maxHeartbeats 2000000
namespace NK01
open PySem Z
/-! ### the elimination -/
theorem eqvs_rw : ∀ a b : Row, PV.eqvs (rw a) (rw b) = decide (a = b)
  | [], [] => rfl
  | [], _ :: _ => rfl
  | _ :: _, [] => rfl
  | x :: a, y :: b => by
    show ((bI x).eqv (bI y) && PV.eqvs (rw a) (rw b)) = _
    rw [eqvs_rw a b]
    have e : (bI x).eqv (bI y) = decide (x = y) := by cases x <;> cases y <;> rfl
    rw [e]
    by_cases h1 : x = y <;> by_cases h2 : a = b <;> simp [h1, h2]
theorem eqv_bL (a b : Row) : (bL a).eqv (bL b) = decide (a = b) := by
  have : (bL a).eqv (bL b) = PV.eqvs (rw a) (rw b) := by
    unfold bL
    simp only [PV.eqv]
  rw [this, eqvs_rw]
theorem eqv_bT (a b : Row) : (bT a).eqv (bT b) = decide (a = b) := by
  have : (bT a).eqv (bT b) = PV.eqvs (rw a) (rw b) := by
    unfold bT
    simp only [PV.eqv]
  rw [this, eqvs_rw]
theorem place_rows (p : Row) : ∀ (L : List Row) (n : Nat), p ∈ L → ∃ j, placeV (bL p) n (L.map bL) = some (n + j) ∧ (L.map bL).eraseIdx j = (L.erase p).map bL
  | [], _, h => by cases h
  | r :: L, n, h => by
    by_cases e : r = p
    · subst e
      refine ⟨0, ?_, ?_⟩
      · show (if (bL r).eqv (bL r) then some n else _) = _
        rw [eqv_bL, decide_eq_true rfl]; rfl
      · rw [List.erase_cons_head]; rfl
    · have hp : p ∈ L := by
        rcases List.mem_cons.mp h with h | h
        · exact absurd h.symm e
        · exact h
      obtain ⟨j, h1, h2⟩ := place_rows p L (n + 1) hp
      refine ⟨j + 1, ?_, ?_⟩
      · show (if (bL r).eqv (bL p) then some n else placeV (bL p) (n + 1) (L.map bL)) = _
        rw [eqv_bL, decide_eq_false e, h1]
        show some (n + 1 + j) = _
        congr 1
        omega
      · rw [List.erase_cons_tail (by simpa using e), List.map_cons, List.eraseIdx_cons_succ, h2]; rfl
theorem okd_bL (n : Nat) (r : Row) : (bL r).okd (n + 1) = true := okds_rw n r
theorem okds_rowsL (l : List Row) : okds DEEP (l.map bL) = true := by
  unfold okds
  rw [List.all_eq_true]
  intro x hx
  obtain ⟨r, _, rfl⟩ := List.mem_map.mp hx
  exact okd_bL 39 r
theorem okd_rowsL (l : List Row) : (PV.lst (l.map bL)).okd DEEP = true := by
  show (l.map bL).all (PV.okd 39) = true
  rw [List.all_eq_true]
  intro x hx
  obtain ⟨r, _, rfl⟩ := List.mem_map.mp hx
  exact okd_bL 38 r
theorem remV_rows {p : Row} {L : List Row} (h : p ∈ L) : remV (bL p) (.lst (L.map bL)) = some (.lst ((L.erase p).map bL)) := by
  obtain ⟨j, h1, h2⟩ := place_rows p L 0 h
  rw [Nat.zero_add] at h1
  have k1 : (bL p).okd DEEP = true := okd_bL 39 p
  have k2 := okds_rowsL L
  simp only [remV, k1, k2, Bool.and_self, if_true, h1, h2]
def clr (at_ : Nat) (p r : Row) : Row := if r.getD at_ false then addB r p else r
abbrev St3 := List Row × List Row × List Nat
def stepB (s : St3) (at_ : Nat) : St3 := match s.1.filter (·.getD at_ false) with
  | [] => s
  | p :: _ => ((s.1.erase p).map (clr at_ p), s.2.1.map (clr at_ p) ++ [p], s.2.2 ++ [at_])
def redB (rows : List Row) (w : Nat) : St3 := (List.range w).foldl stepB (rows, [], [])
theorem addB_len {a b : Row} {n : Nat} (h1 : a.length = n) (h2 : b.length = n) : (addB a b).length = n := by
  unfold addB
  rw [List.length_map, List.length_zip, h1, h2, Nat.min_self]
theorem clr_len {i n : Nat} {p r : Row} (h1 : r.length = n) (h2 : p.length = n) : (clr i p r).length = n := by
  unfold clr
  split
  · exact addB_len h1 h2
  · exact h1
/-- the lengths stay -/
structure Ln (n k : Nat) (s : St3) : Prop where
  l : ∀ r ∈ s.1, r.length = n
  f : ∀ r ∈ s.2.1, r.length = n
  c : s.1.length + s.2.1.length = k
  cf : s.2.2.length = s.2.1.length
theorem Ln.step {n k i : Nat} {s : St3} (h : Ln n k s) : Ln n k (stepB s i) := by
  unfold stepB
  split
  · exact h
  · rename_i p q hq
    have hp : p ∈ s.1 := (List.mem_filter.mp (by rw [hq]; exact List.mem_cons_self)).1
    refine ⟨fun r hr => ?_, fun r hr => ?_, ?_, ?_⟩
    · obtain ⟨r', hr', rfl⟩ := List.mem_map.mp hr
      exact clr_len (h.l r' (List.mem_of_mem_erase hr')) (h.l p hp)
    · rcases List.mem_append.mp hr with hr | hr
      · obtain ⟨r', hr', rfl⟩ := List.mem_map.mp hr
        exact clr_len (h.f r' hr') (h.l p hp)
      · rw [List.mem_singleton.mp hr]; exact h.l p hp
    · have e := List.length_erase_of_mem hp
      have : 0 < s.1.length := List.length_pos_of_mem hp
      have := h.c
      simp only [List.length_map, List.length_append, List.length_singleton]
      omega
    · simp only [List.length_map, List.length_append, List.length_singleton, h.cf]
theorem redB_ln {n : Nat} {rows : List Row} (h : ∀ r ∈ rows, r.length = n) (w : Nat) : Ln n rows.length (redB rows w) := by
  unfold redB
  have : ∀ (l : List Nat) (s : St3), Ln n rows.length s → Ln n rows.length (l.foldl stepB s) := by
    intro l
    induction l with
    | nil => intro s h; exact h
    | cons i l ih => intro s h; exact ih _ h.step
  exact this _ _ ⟨h, (fun r hr => by cases hr), rfl, rfl⟩
theorem redB_succ (rows : List Row) (w : Nat) : redB rows (w + 1) = stepB (redB rows w) w := by
  unfold redB
  rw [List.range_succ, List.foldl_append]
  rfl
def iC (C : List Nat) : List PV := C.map fun (c : Nat) => .int (c : Int)
def seqL : PV → List PV
  | .lst l => l
  | .tup l => l
  | _ => []
theorem r_reducedI (d : Nat) (rows : List Row) (n w : Nat) (wi : Int) (hwi : wi = w) (rp : PV) (hrp : rp = .tup (rows.map bT) ∨ rp = .lst (rows.map bL)) (g : G) (hw : w ≤ 1000) (hwn : w ≤ n) (hk : rows.length ≤ 1000) (hr : ∀ r ∈ rows, r.length = n) :
    runF tab fns (d + 2) 6 [rp, .int wi] g = some (.v (.tup [.lst ((redB rows w).2.1.map bL), .lst (iC (redB rows w).2.2)]), g) := by
  rw [runF_at (f := f_reduced) rfl rfl]
  have hn := small_n (n := w) hw
  rw [← hwi] at hn
  -- the copies
  have h0 : compGo (ev tab (runF tab fns (d + 1)) 58).e [.val rp, .val (.int wi), .no, .no, .no, .no, .no, .no, .no] (.bi .list (.var 5)) (.nm 5) none g (seqL rp) = some (.v (rows.map bL), g) := by
    rcases hrp with rfl | rfl
    · show compGo _ _ _ _ _ _ (rows.map bT) = _
      rw [compGo_map bL]
      intro r _
      refine ⟨_, rfl, ?_⟩
      simp [ev_b, evB1, evS1, ev_var, ev_pk, ev_cst, ev_gv, ev_gf, ev_bin, ev_neg, ev_not, ev_and, ev_or, ev_cmp, ev_isN, ev_isNN, ev_chain, ev_ite, ev_call, ev_callv, ev_bi, ev_isi, ev_mt, ev_idx, ev_sl, ev_rev, ev_tup, ev_lst, ev_comp, ev_comp2, evIt_seq, evIt_rng1, evIt_rng2, evIt_zip, evIt_enum, evL, evO, evC, evCo, bd_some, bs_some, rt_def, lf_some, nx0_some, bindT_nm, bindT_tp, bindTs_nil, bindTs_cons, wipeE, startE, setNx, setSl, slot, modV, seqV_lst, seqV_tup, zipV_ll, zipV_tt, zipV_lt, zipV_tl, enumV_lst, enumV_tup, biV_lenL, biV_lenT, biV_sumL, biV_sumT, biV_allL, biV_anyL, biV_listL, biV_listT, biV_tupL, biV_tupT, biV_intI, binV_addI, binV_subI, binV_addL, binV_addT, binV_mod, cmpV_eq, cmpV_ne, cmpV_lt, cmpV_le, cmpV_gt, cmpV_ge, cmpV_innL, cmpV_innT, cmpV_ninL, cmpV_ninT, isiV, slV, revV, idxV_l, idxV_t, endF, bT, bL]
    · show compGo _ _ _ _ _ _ (rows.map bL) = _
      rw [compGo_map bL]
      intro r _
      refine ⟨_, rfl, ?_⟩
      simp [ev_b, evB1, evS1, ev_var, ev_pk, ev_cst, ev_gv, ev_gf, ev_bin, ev_neg, ev_not, ev_and, ev_or, ev_cmp, ev_isN, ev_isNN, ev_chain, ev_ite, ev_call, ev_callv, ev_bi, ev_isi, ev_mt, ev_idx, ev_sl, ev_rev, ev_tup, ev_lst, ev_comp, ev_comp2, evIt_seq, evIt_rng1, evIt_rng2, evIt_zip, evIt_enum, evL, evO, evC, evCo, bd_some, bs_some, rt_def, lf_some, nx0_some, bindT_nm, bindT_tp, bindTs_nil, bindTs_cons, wipeE, startE, setNx, setSl, slot, modV, seqV_lst, seqV_tup, zipV_ll, zipV_tt, zipV_lt, zipV_tl, enumV_lst, enumV_tup, biV_lenL, biV_lenT, biV_sumL, biV_sumT, biV_allL, biV_anyL, biV_listL, biV_listT, biV_tupL, biV_tupT, biV_intI, binV_addI, binV_subI, binV_addL, binV_addT, binV_mod, cmpV_eq, cmpV_ne, cmpV_lt, cmpV_le, cmpV_gt, cmpV_ge, cmpV_innL, cmpV_innT, cmpV_ninL, cmpV_ninT, isiV, slV, revV, idxV_l, idxV_t, endF, bL]
  have hsq : seqV rp = some (seqL rp) := by
    rcases hrp with rfl | rfl <;> rfl
  generalize hrl : seqL rp = rl at h0 hsq
  -- the turns
  obtain ⟨ρ', g', h1, h2⟩ := forGo_inv (b := (ev tab (runF tab fns (d + 1)) 59).b) (t := .nm 6) (body := [.set false 7 (.comp (.var 5) (.nm 5) (.seq (.pk 2)) (.some (.cmp .eq (.idx (.var 5) (.var 6)) (.cst (.int 1)))) [5]), .ite (.cmp .eq (.var 7) (.lst [])) [.cnt] [], .set false 8 (.idx (.var 7) (.cst (.int 0))), .rem 2 (.var 8), .set true 2 (.comp (.ite (.cmp .eq (.idx (.var 5) (.var 6)) (.cst (.int 1))) (.call 5 [.var 5, .var 8]) (.var 5)) (.nm 5) (.seq (.pk 2)) .none [5]), .set false 3 (.bin .add (.comp (.ite (.cmp .eq (.idx (.var 5) (.var 6)) (.cst (.int 1))) (.call 5 [.var 5, .var 8]) (.var 5)) (.nm 5) (.seq (.var 3)) .none [5]) (.lst [.var 8])), .app 4 (.var 6)]) (so := .nx []) (l := [])
    (fun i ρ g' => g' = g ∧ ∃ s5 s6 s7 s8, ρ = [.val rp, .val (.int wi), .own (.lst ((redB rows i).1.map bL)), .val (.lst ((redB rows i).2.1.map bL)), .own (.lst (iC (redB rows i).2.2)), s5, s6, s7, s8]) (rng 0 w) 0 [.val rp, .val (.int wi), .own (.lst (rows.map bL)), .val (.lst []), .own (.lst []), .no, .no, .no, .no] g ⟨rfl, .no, .no, .no, .no, rfl⟩ (by
    rintro j ρ g' x hx ⟨rfl, s5, s6, s7, s8, rfl⟩
    rw [Nat.zero_add]
    have hj : j < w := by
      have := (List.getElem?_eq_some_iff.mp hx).1
      rw [rng_length] at this
      exact this
    rw [rng_get 0 w j hj] at hx
    cases hx
    obtain ⟨ai, hai⟩ : ∃ ai : Int, ai = j := ⟨_, rfl⟩
    have e0 : (0 : Int) + (j : Nat) = ai := by rw [hai]; omega
    rw [e0]
    have ln := redB_ln hr j
    rw [redB_succ]
    rcases hs : redB rows j with ⟨L, F, C⟩
    rw [hs] at ln
    have ix : ∀ r : Row, r.length = n → atI (rw r) ai = some (.int (b2z (r.getD j false))) := fun r h => by
      rw [hai]
      exact atI_rw (r := r) (i := j) (by omega)
    -- the rows that have the bit
    have f1 : compGo (ev tab (runF tab fns (d + 1)) 57).e [.val rp, .val (.int wi), .own (.lst (L.map bL)), .val (.lst (F.map bL)), .own (.lst (iC C)), .no, .val (.int ai), s7, s8] (.var 5) (.nm 5) (some (.cmp .eq (.idx (.var 5) (.var 6)) (.cst (.int 1)))) g' (L.map bL) = some (.v ((L.filter (·.getD j false)).map bL), g') := by
      rw [compGo_filter bL (fun r => r.getD j false)]
      intro r hr'
      refine ⟨_, rfl, ?_, fun _ => rfl⟩
      have q := ix r (ln.l r hr')
      have q2 := eqB (r.getD j false)
      generalize r.getD j false = y at q q2 ⊢
      simp [ev_b, evB1, evS1, ev_var, ev_pk, ev_cst, ev_gv, ev_gf, ev_bin, ev_neg, ev_not, ev_and, ev_or, ev_cmp, ev_isN, ev_isNN, ev_chain, ev_ite, ev_call, ev_callv, ev_bi, ev_isi, ev_mt, ev_idx, ev_sl, ev_rev, ev_tup, ev_lst, ev_comp, ev_comp2, evIt_seq, evIt_rng1, evIt_rng2, evIt_zip, evIt_enum, evL, evO, evC, evCo, bd_some, bs_some, rt_def, lf_some, nx0_some, bindT_nm, bindT_tp, bindTs_nil, bindTs_cons, wipeE, startE, setNx, setSl, slot, modV, seqV_lst, seqV_tup, zipV_ll, zipV_tt, zipV_lt, zipV_tl, enumV_lst, enumV_tup, biV_lenL, biV_lenT, biV_sumL, biV_sumT, biV_allL, biV_anyL, biV_listL, biV_listT, biV_tupL, biV_tupT, biV_intI, binV_addI, binV_subI, binV_addL, binV_addT, binV_mod, cmpV_eq, cmpV_ne, cmpV_lt, cmpV_le, cmpV_gt, cmpV_ge, cmpV_innL, cmpV_innT, cmpV_ninL, cmpV_ninT, isiV, slV, revV, idxV_l, idxV_t, endF, bL, q, q2]
    cases hf : L.filter (·.getD j false) with
    | nil =>
      rw [hf] at f1
      refine ⟨_, [.val rp, .val (.int wi), .own (.lst (L.map bL)), .val (.lst (F.map bL)), .own (.lst (iC C)), s5, .val (.int ai), .val (.lst []), s8], g', rfl, .inr ?_, rfl, s5, .val (.int ai), .val (.lst []), s8, ?_⟩
      · have he : eqV (.lst []) (.lst []) = some true := rfl
        simp only [List.map_nil] at f1
        simp [ev_b, evB1, evS1, ev_var, ev_pk, ev_cst, ev_gv, ev_gf, ev_bin, ev_neg, ev_not, ev_and, ev_or, ev_cmp, ev_isN, ev_isNN, ev_chain, ev_ite, ev_call, ev_callv, ev_bi, ev_isi, ev_mt, ev_idx, ev_sl, ev_rev, ev_tup, ev_lst, ev_comp, ev_comp2, evIt_seq, evIt_rng1, evIt_rng2, evIt_zip, evIt_enum, evL, evO, evC, evCo, bd_some, bs_some, rt_def, lf_some, nx0_some, bindT_nm, bindT_tp, bindTs_nil, bindTs_cons, wipeE, startE, setNx, setSl, slot, modV, seqV_lst, seqV_tup, zipV_ll, zipV_tt, zipV_lt, zipV_tl, enumV_lst, enumV_tup, biV_lenL, biV_lenT, biV_sumL, biV_sumT, biV_allL, biV_anyL, biV_listL, biV_listT, biV_tupL, biV_tupT, biV_intI, binV_addI, binV_subI, binV_addL, binV_addT, binV_mod, cmpV_eq, cmpV_ne, cmpV_lt, cmpV_le, cmpV_gt, cmpV_ge, cmpV_innL, cmpV_innT, cmpV_ninL, cmpV_ninT, isiV, slV, revV, idxV_l, idxV_t, endF, f1, he]
      · unfold stepB
        simp only [hf]
    | cons p q =>
      have hp : p ∈ L := (List.mem_filter.mp (by rw [hf]; exact List.mem_cons_self)).1
      have hpl := ln.l p hp
      rw [hf] at f1
      have he := eqE (okd_rowsL (p :: q))
      have hrem := remV_rows hp
      have cl : ∀ (X : List Row) (s2 : Sl) (s3 : Sl) (s4 : Sl) (s7 : Sl) (n0 : Nat), (∀ r ∈ X, r.length = n) → compGo (ev tab (runF tab fns (d + 1)) (n0 + 4)).e [.val rp, .val (.int wi), s2, s3, s4, .no, .val (.int ai), s7, .val (bL p)] (.ite (.cmp .eq (.idx (.var 5) (.var 6)) (.cst (.int 1))) (.call 5 [.var 5, .var 8]) (.var 5)) (.nm 5) none g' (X.map bL) = some (.v ((X.map (clr j p)).map bL), g') := by
        intro X s2 s3 s4 s7 n0 hX
        rw [compGo_map fun r => bL (clr j p r), List.map_map]
        · rfl
        · intro r hr'
          refine ⟨_, rfl, ?_⟩
          have q := ix r (hX r hr')
          have q2 := eqB (r.getD j false)
          have q3 := r_added d r p g'
          unfold clr
          simp only [bL] at q3 ⊢
          cases hy : r.getD j false with
          | true =>
            rw [hy] at q q2
            simp [ev_b, evB1, evS1, ev_var, ev_pk, ev_cst, ev_gv, ev_gf, ev_bin, ev_neg, ev_not, ev_and, ev_or, ev_cmp, ev_isN, ev_isNN, ev_chain, ev_ite, ev_call, ev_callv, ev_bi, ev_isi, ev_mt, ev_idx, ev_sl, ev_rev, ev_tup, ev_lst, ev_comp, ev_comp2, evIt_seq, evIt_rng1, evIt_rng2, evIt_zip, evIt_enum, evL, evO, evC, evCo, bd_some, bs_some, rt_def, lf_some, nx0_some, bindT_nm, bindT_tp, bindTs_nil, bindTs_cons, wipeE, startE, setNx, setSl, slot, modV, seqV_lst, seqV_tup, zipV_ll, zipV_tt, zipV_lt, zipV_tl, enumV_lst, enumV_tup, biV_lenL, biV_lenT, biV_sumL, biV_sumT, biV_allL, biV_anyL, biV_listL, biV_listT, biV_tupL, biV_tupT, biV_intI, binV_addI, binV_subI, binV_addL, binV_addT, binV_mod, cmpV_eq, cmpV_ne, cmpV_lt, cmpV_le, cmpV_gt, cmpV_ge, cmpV_innL, cmpV_innT, cmpV_ninL, cmpV_ninT, isiV, slV, revV, idxV_l, idxV_t, endF, q, q2, q3]
          | false =>
            rw [hy] at q q2
            simp [ev_b, evB1, evS1, ev_var, ev_pk, ev_cst, ev_gv, ev_gf, ev_bin, ev_neg, ev_not, ev_and, ev_or, ev_cmp, ev_isN, ev_isNN, ev_chain, ev_ite, ev_call, ev_callv, ev_bi, ev_isi, ev_mt, ev_idx, ev_sl, ev_rev, ev_tup, ev_lst, ev_comp, ev_comp2, evIt_seq, evIt_rng1, evIt_rng2, evIt_zip, evIt_enum, evL, evO, evC, evCo, bd_some, bs_some, rt_def, lf_some, nx0_some, bindT_nm, bindT_tp, bindTs_nil, bindTs_cons, wipeE, startE, setNx, setSl, slot, modV, seqV_lst, seqV_tup, zipV_ll, zipV_tt, zipV_lt, zipV_tl, enumV_lst, enumV_tup, biV_lenL, biV_lenT, biV_sumL, biV_sumT, biV_allL, biV_anyL, biV_listL, biV_listT, biV_tupL, biV_tupT, biV_intI, binV_addI, binV_subI, binV_addL, binV_addT, binV_mod, cmpV_eq, cmpV_ne, cmpV_lt, cmpV_le, cmpV_gt, cmpV_ge, cmpV_innL, cmpV_innT, cmpV_ninL, cmpV_ninT, isiV, slV, revV, idxV_l, idxV_t, endF, q, q2]
      have c1 := cl (L.erase p) (.own (.lst ((L.erase p).map bL))) (.val (.lst (F.map bL))) (.own (.lst (iC C))) (.val (.lst ((p :: q).map bL))) 53 fun r h => ln.l r (List.mem_of_mem_erase h)
      have c2 := cl F (.own (.lst (((L.erase p).map (clr j p)).map bL))) (.val (.lst (F.map bL))) (.own (.lst (iC C))) (.val (.lst ((p :: q).map bL))) 52 ln.f
      have hz : ((F.map (clr j p)).map bL).length + 1 ≤ LIM := by
        rw [List.length_map, List.length_map]
        have : L.length + F.length = rows.length := ln.c
        exact Nat.le_trans (by omega : F.length + 1 ≤ 1001) (by decide)
      have hz2 : (iC C).length < LIM := by
        unfold iC
        have e : C.length = F.length := ln.cf
        rw [List.length_map, e]
        have : L.length + F.length = rows.length := ln.c
        exact Nat.lt_of_le_of_lt (by omega : F.length ≤ 1000) (by decide)
      have eC : iC (C ++ [j]) = iC C ++ [.int ai] := by
        unfold iC
        rw [List.map_append, hai]; rfl
      have eF : (F.map (clr j p) ++ [p]).map bL = (F.map (clr j p)).map bL ++ [bL p] := by rw [List.map_append]; rfl
      have eP : (p :: q).map bL = bL p :: q.map bL := rfl
      refine ⟨_, [.val rp, .val (.int wi), .own (.lst (((L.erase p).map (clr j p)).map bL)), .val (.lst ((F.map (clr j p) ++ [p]).map bL)), .own (.lst (iC (C ++ [j]))), s5, .val (.int ai), .val (.lst ((p :: q).map bL)), .val (bL p)], g', rfl, .inl ?_, rfl, s5, .val (.int ai), .val (.lst ((p :: q).map bL)), .val (bL p), ?_⟩
      · rw [eC, eF]
        rw [eP] at f1 he c1 c2 ⊢
        have hat : atI (bL p :: q.map bL) 0 = some (bL p) := atI_zero
        generalize hX1 : (F.map (clr j p)).map bL = X1 at c2 hz ⊢
        generalize hX2 : ((L.erase p).map (clr j p)).map bL = X2 at c1 c2 ⊢
        generalize hX3 : (L.erase p).map bL = X3 at c1 hrem ⊢
        generalize hX4 : iC C = X4 at f1 c1 c2 hz2 ⊢
        generalize hX5 : q.map bL = X5 at f1 he c1 c2 hat ⊢
        generalize hX6 : bL p = X6 at f1 he c1 c2 hat hrem ⊢
        have he : eqV (.lst (X6 :: X5)) (.lst []) = some false := he
        simp only [Nat.reduceAdd] at c1 c2
        simp [ev_b, evB1, evS1, ev_var, ev_pk, ev_cst, ev_gv, ev_gf, ev_bin, ev_neg, ev_not, ev_and, ev_or, ev_cmp, ev_isN, ev_isNN, ev_chain, ev_ite, ev_call, ev_callv, ev_bi, ev_isi, ev_mt, ev_idx, ev_sl, ev_rev, ev_tup, ev_lst, ev_comp, ev_comp2, evIt_seq, evIt_rng1, evIt_rng2, evIt_zip, evIt_enum, evL, evO, evC, evCo, bd_some, bs_some, rt_def, lf_some, nx0_some, bindT_nm, bindT_tp, bindTs_nil, bindTs_cons, wipeE, startE, setNx, setSl, slot, modV, seqV_lst, seqV_tup, zipV_ll, zipV_tt, zipV_lt, zipV_tl, enumV_lst, enumV_tup, biV_lenL, biV_lenT, biV_sumL, biV_sumT, biV_allL, biV_anyL, biV_listL, biV_listT, biV_tupL, biV_tupT, biV_intI, binV_addI, binV_subI, binV_addL, binV_addT, binV_mod, cmpV_eq, cmpV_ne, cmpV_lt, cmpV_le, cmpV_gt, cmpV_ge, cmpV_innL, cmpV_innT, cmpV_ninL, cmpV_ninT, isiV, slV, revV, idxV_l, idxV_t, endF, f1, he, hat, hrem, c1, c2, hz, hz2, appV]
      · unfold stepB
        simp only [hf])
  obtain ⟨rfl, s5, s6, s7, s8, rfl⟩ := h2
  rw [Nat.zero_add, rng_length] at h1
  have hN : f_reduced.names.length = 9 := rfl
  rw [hN]
  simp [ev_b, evB1, evS1, ev_var, ev_pk, ev_cst, ev_gv, ev_gf, ev_bin, ev_neg, ev_not, ev_and, ev_or, ev_cmp, ev_isN, ev_isNN, ev_chain, ev_ite, ev_call, ev_callv, ev_bi, ev_isi, ev_mt, ev_idx, ev_sl, ev_rev, ev_tup, ev_lst, ev_comp, ev_comp2, evIt_seq, evIt_rng1, evIt_rng2, evIt_zip, evIt_enum, evL, evO, evC, evCo, bd_some, bs_some, rt_def, lf_some, nx0_some, bindT_nm, bindT_tp, bindTs_nil, bindTs_cons, wipeE, startE, setNx, setSl, slot, modV, seqV_lst, seqV_tup, zipV_ll, zipV_tt, zipV_lt, zipV_tl, enumV_lst, enumV_tup, biV_lenL, biV_lenT, biV_sumL, biV_sumT, biV_allL, biV_anyL, biV_listL, biV_listT, biV_tupL, biV_tupT, biV_intI, binV_addI, binV_subI, binV_addL, binV_addT, binV_mod, cmpV_eq, cmpV_ne, cmpV_lt, cmpV_le, cmpV_gt, cmpV_ge, cmpV_innL, cmpV_innT, cmpV_ninL, cmpV_ninT, isiV, slV, revV, idxV_l, idxV_t, endF, f_reduced, hn, hsq, h0, h1, setAll]
end NK01
end

section
set_option Elab.async false
set_option linter.all false
set_option maxRecDepth 100000
set_option maxHeartbeats 2000000
namespace NK01
open PySem Z
theorem at3_0 {a b c : PV} : atI [a, b, c] 0 = some a := rfl
theorem at3_1 {a b c : PV} : atI [a, b, c] 1 = some b := rfl
theorem at3_2 {a b c : PV} : atI [a, b, c] 2 = some c := rfl
theorem at2_0 {a b : PV} : atI [a, b] 0 = some a := rfl
theorem at2_1 {a b : PV} : atI [a, b] 1 = some b := rfl
/-- the systems -/
structure Sy where
  w : Nat
  rows : List Row
  right : Row
structure Sy.Ok (s : Sy) : Prop where
  w : s.w ≤ 8
  m : s.rows.length ≤ 8
  r : ∀ r ∈ s.rows, r.length = s.w
  l : s.right.length = s.rows.length
def Sy.R (s : Sy) : PV := .tup (s.rows.map bT)
def Sy.P (s : Sy) : PV := .tup [.int s.w, s.R, bT s.right]
theorem isW_bI (b : Bool) : isW (bI b) 0 1 = true := by cases b <;> rfl
theorem sca_rw (r : Row) : ∀ x ∈ rw r, sca x = true := by
  intro x hx
  unfold rw at hx
  obtain ⟨b, _, rfl⟩ := List.mem_map.mp hx
  rfl
theorem areW_bT (r : Row) (n : Int) : areW (bT r) n 0 1 = decide ((r.length : Int) = n) := by
  unfold areW bT
  have : (rw r).all (fun x => isW x 0 1) = true := by
    rw [List.all_eq_true]
    intro x hx
    unfold rw at hx
    obtain ⟨b, _, rfl⟩ := List.mem_map.mp hx
    exact isW_bI b
  simp only [this, Bool.and_true]
  unfold rw
  rw [List.length_map]
theorem r_areW_bT (d : Nat) (r : Row) (n : Int) (g : G) (h : (r.length : Int) = n) : runF tab fns (d + 2) 2 [bT r, .int n, .int 0, .int 1] g = some (.v (.bl true), g) := by
  have := r_are_wholes d (bT r) n 0 1 g rfl fun l hl => by cases hl; exact sca_rw r
  rw [this, areW_bT, decide_eq_true h]
theorem blsOf_all {α : Type} (l : List α) : blsOf (l.map fun _ => .bl true) = some (l.map fun _ => true) := blsOf_map l fun _ => true
theorem all_true {α : Type} (l : List α) : (l.map fun _ => true).all id = true := by
  rw [List.all_eq_true]
  intro x hx
  obtain ⟨_, _, rfl⟩ := List.mem_map.mp hx
  rfl
theorem r_is_even (d : Nat) (s : Sy) (ok : s.Ok) (g : G) : runF tab fns (d + 3) 3 [s.P] g = some (.v (.bl true), g) := by
  unfold Sy.P
  obtain ⟨wi, hwi⟩ : ∃ wi : Int, wi = s.w := ⟨_, rfl⟩
  rw [← hwi]
  obtain ⟨mi, hmi⟩ : ∃ mi : Int, mi = s.rows.length := ⟨_, rfl⟩
  rw [runF_at (f := f_is_even_system) rfl rfl]
  have h1 := r_is_tuple_of (d + 1) (.tup [.int wi, s.R, bT s.right]) 3 3 g rfl
  have e1 : isTup (.tup [.int wi, s.R, bT s.right]) 3 3 = true := rfl
  rw [e1] at h1
  have h2 := r_is_whole (d + 1) (.int wi) 0 200 g rfl
  have e2 : isW (.int wi) 0 200 = true := by
    have := ok.w
    simp only [isW, Bool.and_eq_true, decide_eq_true_eq]
    omega
  rw [e2] at h2
  have h3 := r_is_tuple_of (d + 1) s.R 0 200 g rfl
  have e3 : isTup s.R 0 200 = true := by
    have := ok.m
    simp only [isTup, Sy.R, List.length_map, Bool.and_eq_true, decide_eq_true_eq]
    omega
  rw [e3] at h3
  have h4 := r_areW_bT d s.right mi g (by rw [ok.l, hmi])
  have hc : compGo (ev tab (runF tab fns (d + 2)) 56).e [.val (.tup [.int wi, s.R, bT s.right]), .no] (.call 2 [.var 1, .idx (.var 0) (.cst (.int 0)), .cst (.int 0), .cst (.int 1)]) (.nm 1) none g (s.rows.map bT) = some (.v (s.rows.map fun _ => .bl true), g) := by
    rw [compGo_map fun _ => .bl true]
    intro r hr
    refine ⟨_, rfl, ?_⟩
    have := r_areW_bT d r wi g (by rw [ok.r r hr, hwi])
    simp [ev_b, evB1, evS1, ev_var, ev_pk, ev_cst, ev_gv, ev_gf, ev_bin, ev_neg, ev_not, ev_and, ev_or, ev_cmp, ev_isN, ev_isNN, ev_chain, ev_ite, ev_call, ev_callv, ev_bi, ev_isi, ev_mt, ev_idx, ev_sl, ev_rev, ev_tup, ev_lst, ev_comp, ev_comp2, evIt_seq, evIt_rng1, evIt_rng2, evIt_zip, evIt_enum, evL, evO, evC, evCo, bd_some, bs_some, rt_def, lf_some, nx0_some, bindT_nm, bindT_tp, bindTs_nil, bindTs_cons, wipeE, startE, setNx, setSl, slot, modV, seqV_lst, seqV_tup, zipV_ll, zipV_tt, zipV_lt, zipV_tl, enumV_lst, enumV_tup, biV_lenL, biV_lenT, biV_sumL, biV_sumT, biV_allL, biV_anyL, biV_listL, biV_listT, biV_tupL, biV_tupT, biV_intI, binV_addI, binV_subI, binV_addL, binV_addT, binV_mod, cmpV_eq, cmpV_ne, cmpV_lt, cmpV_le, cmpV_gt, cmpV_ge, cmpV_innL, cmpV_innT, cmpV_ninL, cmpV_ninT, isiV, slV, revV, idxV_l, idxV_t, endF, this, at3_0]
  have hlen : ∀ n, (ev tab (runF tab fns (d + 2)) (n + 3)).e [.val (.tup [.int wi, s.R, bT s.right]), .no] g (.bi .len (.idx (.var 0) (.cst (.int 1)))) = some (.v (.int mi), g) := fun n => by
    have : biV .len s.R = some (.int mi) := by
      rw [hmi]
      show some (PV.int ((s.rows.map bT).length : Int)) = _
      rw [List.length_map]
    have e1 : (ev tab (runF tab fns (d + 2)) (n + 2)).e [.val (.tup [.int wi, s.R, bT s.right]), .no] g (.idx (.var 0) (.cst (.int 1))) = some (.v s.R, g) := by
      simp [ev_b, evB1, evS1, ev_var, ev_pk, ev_cst, ev_gv, ev_gf, ev_bin, ev_neg, ev_not, ev_and, ev_or, ev_cmp, ev_isN, ev_isNN, ev_chain, ev_ite, ev_call, ev_callv, ev_bi, ev_isi, ev_mt, ev_idx, ev_sl, ev_rev, ev_tup, ev_lst, ev_comp, ev_comp2, evIt_seq, evIt_rng1, evIt_rng2, evIt_zip, evIt_enum, evL, evO, evC, evCo, bd_some, bs_some, rt_def, lf_some, nx0_some, bindT_nm, bindT_tp, bindTs_nil, bindTs_cons, wipeE, startE, setNx, setSl, slot, modV, seqV_lst, seqV_tup, zipV_ll, zipV_tt, zipV_lt, zipV_tl, enumV_lst, enumV_tup, biV_lenL, biV_lenT, biV_sumL, biV_sumT, biV_allL, biV_anyL, biV_listL, biV_listT, biV_tupL, biV_tupT, biV_intI, binV_addI, binV_subI, binV_addL, binV_addT, binV_mod, cmpV_eq, cmpV_ne, cmpV_lt, cmpV_le, cmpV_gt, cmpV_ge, cmpV_innL, cmpV_innT, cmpV_ninL, cmpV_ninT, isiV, slV, revV, idxV_l, idxV_t, endF, at3_1]
    rw [ev_bi, e1, bd_some, this]
    rfl
  have hsR : seqV s.R = some (s.rows.map bT) := rfl
  have hb := blsOf_all s.rows
  have ha := all_true s.rows
  generalize hX : (s.rows.map fun _ => PV.bl true) = X at hc hb
  generalize hY : (s.rows.map fun _ => true) = Y at hb ha
  generalize hZ : s.rows.map bT = Z at hc hsR
  generalize s.R = RR at h1 h3 hc hlen hsR ⊢
  generalize bT s.right = TT at h1 h4 hc hlen ⊢
  rw [show f_is_even_system.body = [.ite (.or (.not (.call 1 [.var 0, .cst (.int 3), .cst (.int 3)])) (.or (.not (.call 0 [.idx (.var 0) (.cst (.int 0)), .cst (.int 0), .gv 0])) (.not (.call 1 [.idx (.var 0) (.cst (.int 1)), .cst (.int 0), .gv 1])))) [.ret (.cst (.bl false))] [], .ret (.and (.bi .all (.comp (.call 2 [.var 1, .idx (.var 0) (.cst (.int 0)), .cst (.int 0), .cst (.int 1)]) (.nm 1) (.seq (.idx (.var 0) (.cst (.int 1)))) .none [1])) (.call 2 [.idx (.var 0) (.cst (.int 2)), .bi .len (.idx (.var 0) (.cst (.int 1))), .cst (.int 0), .cst (.int 1)]))] from rfl]
  have hN : f_is_even_system.names.length = 2 := rfl
  rw [hN]
  generalize hC : E.bi .len (.idx (.var 0) (.cst (.int 1))) = cc at hlen ⊢
  have hg0 : tab.gl[0]? = some (("WIDTH" : Str), PV.int 200) := rfl
  have hg1 : tab.gl[1]? = some (("ROWS" : Str), PV.int 200) := rfl
  simp [ev_b, evB1, evS1, ev_var, ev_pk, ev_cst, ev_gv, ev_gf, ev_bin, ev_neg, ev_not, ev_and, ev_or, ev_cmp, ev_isN, ev_isNN, ev_chain, ev_ite, ev_call, ev_callv, ev_bi, ev_isi, ev_mt, ev_idx, ev_sl, ev_rev, ev_tup, ev_lst, ev_comp, ev_comp2, evIt_seq, evIt_rng1, evIt_rng2, evIt_zip, evIt_enum, evL, evO, evC, evCo, bd_some, bs_some, rt_def, lf_some, nx0_some, bindT_nm, bindT_tp, bindTs_nil, bindTs_cons, wipeE, startE, setNx, setSl, slot, modV, seqV_lst, seqV_tup, zipV_ll, zipV_tt, zipV_lt, zipV_tl, enumV_lst, enumV_tup, biV_lenL, biV_lenT, biV_sumL, biV_sumT, biV_allL, biV_anyL, biV_listL, biV_listT, biV_tupL, biV_tupT, biV_intI, binV_addI, binV_subI, binV_addL, binV_addT, binV_mod, cmpV_eq, cmpV_ne, cmpV_lt, cmpV_le, cmpV_gt, cmpV_ge, cmpV_innL, cmpV_innT, cmpV_ninL, cmpV_ninT, isiV, slV, revV, idxV_l, idxV_t, endF, h1, h2, h3, h4, hc, hlen, hsR, hb, ha, at3_0, at3_1, at3_2, hg0, hg1, flatP]
theorem r_need (d : Nat) (s : Sy) (ok : s.Ok) (g : G) : runF tab fns (d + 4) 4 [s.P] g = some (.v .non, g) := by
  have h := r_is_even d s ok g
  rw [runF_at (f := f_need_even) rfl rfl]
  generalize s.P = P at h ⊢
  simp [ev_b, evB1, evS1, ev_var, ev_pk, ev_cst, ev_gv, ev_gf, ev_bin, ev_neg, ev_not, ev_and, ev_or, ev_cmp, ev_isN, ev_isNN, ev_chain, ev_ite, ev_call, ev_callv, ev_bi, ev_isi, ev_mt, ev_idx, ev_sl, ev_rev, ev_tup, ev_lst, ev_comp, ev_comp2, evIt_seq, evIt_rng1, evIt_rng2, evIt_zip, evIt_enum, evL, evO, evC, evCo, bd_some, bs_some, rt_def, lf_some, nx0_some, bindT_nm, bindT_tp, bindTs_nil, bindTs_cons, wipeE, startE, setNx, setSl, slot, modV, seqV_lst, seqV_tup, zipV_ll, zipV_tt, zipV_lt, zipV_tl, enumV_lst, enumV_tup, biV_lenL, biV_lenT, biV_sumL, biV_sumT, biV_allL, biV_anyL, biV_listL, biV_listT, biV_tupL, biV_tupT, biV_intI, binV_addI, binV_subI, binV_addL, binV_addT, binV_mod, cmpV_eq, cmpV_ne, cmpV_lt, cmpV_le, cmpV_gt, cmpV_ge, cmpV_innL, cmpV_innT, cmpV_ninL, cmpV_ninT, isiV, slV, revV, idxV_l, idxV_t, endF, f_need_even, h]
def rankB (s : Sy) : Nat := (redB s.rows s.w).2.2.length
theorem r_rank_in (d : Nat) (s : Sy) (ok : s.Ok) (g : G) : runF tab fns (d + 3) 10 [s.P] g = some (.v (.int (rankB s)), g) := by
  unfold Sy.P
  obtain ⟨wi, hwi⟩ : ∃ wi : Int, wi = s.w := ⟨_, rfl⟩
  rw [← hwi]
  rw [runF_at (f := f_even_rank_in) rfl rfl]
  have h := r_reducedI d s.rows s.w s.w wi hwi s.R (.inl rfl) g (by have := ok.w; omega) (Nat.le_refl _) (by have := ok.m; omega) ok.r
  have hl : biV .len (.lst (iC (redB s.rows s.w).2.2)) = some (.int (rankB s)) := by
    show some (PV.int ((iC (redB s.rows s.w).2.2).length : Int)) = _
    unfold iC rankB
    rw [List.length_map]
  obtain ⟨ri, hri⟩ : ∃ ri : Int, ri = rankB s := ⟨_, rfl⟩
  rw [← hri] at hl ⊢
  generalize s.R = RR at h ⊢
  generalize bT s.right = TT
  generalize (redB s.rows s.w).2.1.map bL = FF at h
  generalize iC (redB s.rows s.w).2.2 = CC at h hl
  have hl2 : ∀ n, (ev tab (runF tab fns (d + 2)) (n + 5)).e [.val (.tup [.int wi, RR, TT])] g (.bi .len (.idx (.call 6 [.idx (.var 0) (.cst (.int 1)), .idx (.var 0) (.cst (.int 0))]) (.cst (.int 1)))) = some (.v (.int ri), g) := fun n => by
    rw [ev_bi]
    have : (ev tab (runF tab fns (d + 2)) (n + 4)).e [.val (.tup [.int wi, RR, TT])] g (.idx (.call 6 [.idx (.var 0) (.cst (.int 1)), .idx (.var 0) (.cst (.int 0))]) (.cst (.int 1))) = some (.v (.lst CC), g) := by
      simp [ev_b, evB1, evS1, ev_var, ev_pk, ev_cst, ev_gv, ev_gf, ev_bin, ev_neg, ev_not, ev_and, ev_or, ev_cmp, ev_isN, ev_isNN, ev_chain, ev_ite, ev_call, ev_callv, ev_bi, ev_isi, ev_mt, ev_idx, ev_sl, ev_rev, ev_tup, ev_lst, ev_comp, ev_comp2, evIt_seq, evIt_rng1, evIt_rng2, evIt_zip, evIt_enum, evL, evO, evC, evCo, bd_some, bs_some, rt_def, lf_some, nx0_some, bindT_nm, bindT_tp, bindTs_nil, bindTs_cons, wipeE, startE, setNx, setSl, slot, modV, seqV_lst, seqV_tup, zipV_ll, zipV_tt, zipV_lt, zipV_tl, enumV_lst, enumV_tup, biV_lenL, biV_lenT, biV_sumL, biV_sumT, biV_allL, biV_anyL, biV_listL, biV_listT, biV_tupL, biV_tupT, biV_intI, binV_addI, binV_subI, binV_addL, binV_addT, binV_mod, cmpV_eq, cmpV_ne, cmpV_lt, cmpV_le, cmpV_gt, cmpV_ge, cmpV_innL, cmpV_innT, cmpV_ninL, cmpV_ninT, isiV, slV, revV, idxV_l, idxV_t, endF, h, at3_0, at3_1, at2_1]
    rw [this, bd_some, hl]
    rfl
  rw [show f_even_rank_in.body = [.ret (.bi .len (.idx (.call 6 [.idx (.var 0) (.cst (.int 1)), .idx (.var 0) (.cst (.int 0))]) (.cst (.int 1))))] from rfl]
  generalize hC : E.bi .len (.idx (.call 6 [.idx (.var 0) (.cst (.int 1)), .idx (.var 0) (.cst (.int 0))]) (.cst (.int 1))) = cc at hl2 ⊢
  have hN : f_even_rank_in.names.length = 1 := rfl
  rw [hN]
  simp [ev_b, evB1, evS1, ev_var, ev_pk, ev_cst, ev_gv, ev_gf, ev_bin, ev_neg, ev_not, ev_and, ev_or, ev_cmp, ev_isN, ev_isNN, ev_chain, ev_ite, ev_call, ev_callv, ev_bi, ev_isi, ev_mt, ev_idx, ev_sl, ev_rev, ev_tup, ev_lst, ev_comp, ev_comp2, evIt_seq, evIt_rng1, evIt_rng2, evIt_zip, evIt_enum, evL, evO, evC, evCo, bd_some, bs_some, rt_def, lf_some, nx0_some, bindT_nm, bindT_tp, bindTs_nil, bindTs_cons, wipeE, startE, setNx, setSl, slot, modV, seqV_lst, seqV_tup, zipV_ll, zipV_tt, zipV_lt, zipV_tl, enumV_lst, enumV_tup, biV_lenL, biV_lenT, biV_sumL, biV_sumT, biV_allL, biV_anyL, biV_listL, biV_listT, biV_tupL, biV_tupT, biV_intI, binV_addI, binV_subI, binV_addL, binV_addT, binV_mod, cmpV_eq, cmpV_ne, cmpV_lt, cmpV_le, cmpV_gt, cmpV_ge, cmpV_innL, cmpV_innT, cmpV_ninL, cmpV_ninT, isiV, slV, revV, idxV_l, idxV_t, endF, hl2, flatP]
theorem r_rank (d : Nat) (s : Sy) (ok : s.Ok) (g : G) : runF tab fns (d + 5) 12 [s.P] g = some (.v (.int (rankB s)), g) := by
  have h1 := r_need d s ok g
  have h2 := r_rank_in (d + 1) s ok g
  rw [runF_at (f := f_even_rank) rfl rfl]
  obtain ⟨ri, hri⟩ : ∃ ri : Int, ri = rankB s := ⟨_, rfl⟩
  rw [← hri] at h2 ⊢
  generalize s.P = P at h1 h2 ⊢
  simp [ev_b, evB1, evS1, ev_var, ev_pk, ev_cst, ev_gv, ev_gf, ev_bin, ev_neg, ev_not, ev_and, ev_or, ev_cmp, ev_isN, ev_isNN, ev_chain, ev_ite, ev_call, ev_callv, ev_bi, ev_isi, ev_mt, ev_idx, ev_sl, ev_rev, ev_tup, ev_lst, ev_comp, ev_comp2, evIt_seq, evIt_rng1, evIt_rng2, evIt_zip, evIt_enum, evL, evO, evC, evCo, bd_some, bs_some, rt_def, lf_some, nx0_some, bindT_nm, bindT_tp, bindTs_nil, bindTs_cons, wipeE, startE, setNx, setSl, slot, modV, seqV_lst, seqV_tup, zipV_ll, zipV_tt, zipV_lt, zipV_tl, enumV_lst, enumV_tup, biV_lenL, biV_lenT, biV_sumL, biV_sumT, biV_allL, biV_anyL, biV_listL, biV_listT, biV_tupL, biV_tupT, biV_intI, binV_addI, binV_subI, binV_addL, binV_addT, binV_mod, cmpV_eq, cmpV_ne, cmpV_lt, cmpV_le, cmpV_gt, cmpV_ge, cmpV_innL, cmpV_innT, cmpV_ninL, cmpV_ninT, isiV, slV, revV, idxV_l, idxV_t, endF, f_even_rank, h1, h2, flatP]
end NK01
end

section
set_option Elab.async false
set_option linter.all false
set_option maxRecDepth 100000
set_option maxHeartbeats 2000000
namespace NK01
open PySem Z
/-! ### columns -/
theorem redB_lt (rows : List Row) : ∀ (w : Nat), ∀ c ∈ (redB rows w).2.2, c < w
  | 0, c, h => by cases h
  | w + 1, c, h => by
    rw [redB_succ] at h
    unfold stepB at h
    split at h
    · exact Nat.lt_succ_of_lt (redB_lt rows w c h)
    · rcases List.mem_append.mp h with h | h
      · exact Nat.lt_succ_of_lt (redB_lt rows w c h)
      · rw [List.mem_singleton.mp h]; exact Nat.lt_succ_self w
/-! ### widened -/
def widR (s : Sy) (i : Nat) : Row := s.rows.getD i [] ++ [s.right.getD i false] ++ (List.range s.rows.length).map fun j => j == i
def widB (s : Sy) : List Row := (List.range s.rows.length).map (widR s)
theorem range_take (m i : Nat) (h : i < m) (f : Nat → Row) : (List.range (i + 1)).map f = (List.range i).map f ++ [f i] := by
  rw [List.range_succ, List.map_append]; rfl
theorem r_widened (d : Nat) (s : Sy) (ok : s.Ok) (wi : Int) (g : G) : runF tab fns (d + 1) 7 [.tup [.int wi, s.R, bT s.right]] g = some (.v (.lst ((widB s).map bL)), g) := by
  rw [runF_at (f := f_widened) rfl rfl]
  obtain ⟨mi, hmi⟩ : ∃ mi : Int, mi = s.rows.length := ⟨_, rfl⟩
  have hm8 := ok.m
  have hn := small_n (n := s.rows.length) (by omega)
  rw [← hmi] at hn
  obtain ⟨SP, hSP⟩ : ∃ SP : PV, SP = .tup [.int wi, s.R, bT s.right] := ⟨_, rfl⟩
  rw [← hSP]
  have i1 : ∀ g, idxV g SP (.int 1) = some s.R := fun g => by rw [hSP]; rfl
  have i2 : ∀ g, idxV g SP (.int 2) = some (bT s.right) := fun g => by rw [hSP]; rfl
  have hlen : biV .len s.R = some (.int mi) := by
    rw [hmi]
    show some (PV.int ((s.rows.map bT).length : Int)) = _
    rw [List.length_map]
  have hen : enumV s.R = some (enumP 0 (s.rows.map bT)) := rfl
  obtain ⟨ρ', g', h1, h2⟩ := forGo_inv (b := (ev tab (runF tab fns d) 59).b) (t := .tp [.nm 3, .nm 4]) (body := [.app 2 (.bin .add (.bin .add (.bi .list (.var 4)) (.lst [.idx (.idx (.var 0) (.cst (.int 2))) (.var 3)])) (.comp (.ite (.cmp .eq (.var 5) (.var 3)) (.cst (.int 1)) (.cst (.int 0))) (.nm 5) (.rng1 (.var 1)) .none [5]))]) (so := .nx []) (l := [])
    (fun i ρ g' => g' = g ∧ ∃ s3 s4, ρ = [.val SP, .val (.int mi), .own (.lst (((List.range i).map (widR s)).map bL)), s3, s4, .no]) (enumP 0 (s.rows.map bT)) 0 [.val SP, .val (.int mi), .own (.lst []), .no, .no, .no] g ⟨rfl, .no, .no, rfl⟩ (by
    rintro j ρ g' x hx ⟨rfl, s3, s4, rfl⟩
    rw [Nat.zero_add]
    obtain ⟨y, hy, rfl⟩ := enumP_get 0 _ j x hx
    obtain ⟨row, hrow, rfl⟩ : ∃ row, s.rows[j]? = some row ∧ bT row = y := by
      rw [List.getElem?_map] at hy
      cases q : s.rows[j]? with
      | none => rw [q] at hy; cases hy
      | some r => rw [q] at hy; exact ⟨r, rfl, Option.some.inj hy⟩
    have hj : j < s.rows.length := (List.getElem?_eq_some_iff.mp hrow).1
    obtain ⟨ji, hji⟩ : ∃ ji : Int, ji = j := ⟨_, rfl⟩
    have e0 : (0 : Int) + (j : Nat) = ji := by rw [hji]; omega
    rw [e0]
    have hat : atI (rw s.right) ji = some (bI (s.right.getD j false)) := by
      rw [hji]
      exact atI_rw (by rw [ok.l]; exact hj)
    have hc : compGo (ev tab (runF tab fns d) 56).e [.val SP, .val (.int mi), .own (.lst (((List.range j).map (widR s)).map bL)), .val (.int ji), .val (bT row), .no] (.ite (.cmp .eq (.var 5) (.var 3)) (.cst (.int 1)) (.cst (.int 0))) (.nm 5) none g' (rng 0 s.rows.length) = some (.v (rw ((List.range s.rows.length).map fun k => k == j)), g') := by
      rw [rng0, compGo_map fun (k : Nat) => bI (k == j)]
      · unfold rw
        rw [List.map_map]; rfl
      · intro k _
        refine ⟨_, rfl, ?_⟩
        obtain ⟨ki, hki⟩ : ∃ ki : Int, ki = k := ⟨_, rfl⟩
        rw [← hki]
        have : (ki == ji) = (k == j) := by
          rw [hki, hji, Bool.eq_iff_iff, beq_iff_eq, beq_iff_eq]
          omega
        cases hb : (k == j) with
        | true =>
          rw [hb] at this
          simp [ev_b, evB1, evS1, ev_var, ev_pk, ev_cst, ev_gv, ev_gf, ev_bin, ev_neg, ev_not, ev_and, ev_or, ev_cmp, ev_isN, ev_isNN, ev_chain, ev_ite, ev_call, ev_callv, ev_bi, ev_isi, ev_mt, ev_idx, ev_sl, ev_rev, ev_tup, ev_lst, ev_comp, ev_comp2, evIt_seq, evIt_rng1, evIt_rng2, evIt_zip, evIt_enum, evL, evO, evC, evCo, bd_some, bs_some, rt_def, lf_some, nx0_some, bindT_nm, bindT_tp, bindTs_nil, bindTs_cons, wipeE, startE, setNx, setSl, slot, modV, seqV_lst, seqV_tup, zipV_ll, zipV_tt, zipV_lt, zipV_tl, enumV_lst, enumV_tup, biV_lenL, biV_lenT, biV_sumL, biV_sumT, biV_allL, biV_anyL, biV_listL, biV_listT, biV_tupL, biV_tupT, biV_intI, binV_addI, binV_subI, binV_addL, binV_addT, binV_mod, cmpV_eq, cmpV_ne, cmpV_lt, cmpV_le, cmpV_gt, cmpV_ge, cmpV_innL, cmpV_innT, cmpV_ninL, cmpV_ninT, isiV, slV, revV, idxV_l, idxV_t, endF, eqVI, this, bI, b2z]
        | false =>
          rw [hb] at this
          simp [ev_b, evB1, evS1, ev_var, ev_pk, ev_cst, ev_gv, ev_gf, ev_bin, ev_neg, ev_not, ev_and, ev_or, ev_cmp, ev_isN, ev_isNN, ev_chain, ev_ite, ev_call, ev_callv, ev_bi, ev_isi, ev_mt, ev_idx, ev_sl, ev_rev, ev_tup, ev_lst, ev_comp, ev_comp2, evIt_seq, evIt_rng1, evIt_rng2, evIt_zip, evIt_enum, evL, evO, evC, evCo, bd_some, bs_some, rt_def, lf_some, nx0_some, bindT_nm, bindT_tp, bindTs_nil, bindTs_cons, wipeE, startE, setNx, setSl, slot, modV, seqV_lst, seqV_tup, zipV_ll, zipV_tt, zipV_lt, zipV_tl, enumV_lst, enumV_tup, biV_lenL, biV_lenT, biV_sumL, biV_sumT, biV_allL, biV_anyL, biV_listL, biV_listT, biV_tupL, biV_tupT, biV_intI, binV_addI, binV_subI, binV_addL, binV_addT, binV_mod, cmpV_eq, cmpV_ne, cmpV_lt, cmpV_le, cmpV_gt, cmpV_ge, cmpV_innL, cmpV_innT, cmpV_ninL, cmpV_ninT, isiV, slV, revV, idxV_l, idxV_t, endF, eqVI, this, bI, b2z]
    have ew : widR s j = row ++ [s.right.getD j false] ++ (List.range s.rows.length).map fun k => k == j := by
      unfold widR
      rw [List.getD_eq_getElem?_getD, hrow]; rfl
    have hrl := ok.r row (List.mem_of_getElem? hrow)
    have hw8 := ok.w
    have z1 : (rw row).length + 1 ≤ LIM := by
      unfold rw
      rw [List.length_map, hrl]
      exact Nat.le_trans (by omega : s.w + 1 ≤ 9) (by decide)
    have z2 : (rw row ++ [bI (s.right.getD j false)]).length + (rw ((List.range s.rows.length).map fun k => k == j)).length ≤ LIM := by
      unfold rw
      simp only [List.length_append, List.length_map, List.length_range, List.length_singleton]
      rw [hrl]
      exact Nat.le_trans (by omega : s.w + 1 + s.rows.length ≤ 17) (by decide)
    have z3 : (((List.range j).map (widR s)).map bL).length < LIM := by
      rw [List.length_map, List.length_map, List.length_range]
      exact Nat.lt_of_lt_of_le (by omega : j < 8) (by decide)
    have e1 : ((List.range (j + 1)).map (widR s)).map bL = ((List.range j).map (widR s)).map bL ++ [.lst (rw row ++ [bI (s.right.getD j false)] ++ rw ((List.range s.rows.length).map fun k => k == j))] := by
      rw [range_take _ _ hj, List.map_append]
      congr 1
      show [bL (widR s j)] = _
      rw [ew]
      unfold bL rw
      rw [List.map_append, List.map_append]; rfl
    refine ⟨_, [.val SP, .val (.int mi), .own (.lst (((List.range (j + 1)).map (widR s)).map bL)), .val (.int ji), .val (bT row), .no], g', rfl, .inl ?_, rfl, _, _, rfl⟩
    rw [e1]
    have i2' := i2 g'
    simp only [bT] at hc i2' ⊢
    generalize hX1 : rw ((List.range s.rows.length).map fun k => k == j) = X1 at hc z2 ⊢
    generalize hX2 : ((List.range j).map (widR s)).map bL = X2 at hc z3 ⊢
    generalize hX3 : rw row = X3 at hc z1 z2 ⊢
    generalize hX4 : bI (s.right.getD j false) = X4 at hat z2 ⊢
    generalize hX5 : rw s.right = X5 at hat i2'
    have i3 : idxV g' (.tup X5) (.int ji) = some X4 := hat
    have hsub : ∀ n, (ev tab (runF tab fns d) (n + 3)).e [.val SP, .val (.int mi), .own (.lst X2), .val (.int ji), .val (.tup X3), .no] g' (.idx (.idx (.var 0) (.cst (.int 2))) (.var 3)) = some (.v X4, g') := fun n => by
      simp [ev_b, evB1, evS1, ev_var, ev_pk, ev_cst, ev_gv, ev_gf, ev_bin, ev_neg, ev_not, ev_and, ev_or, ev_cmp, ev_isN, ev_isNN, ev_chain, ev_ite, ev_call, ev_callv, ev_bi, ev_isi, ev_mt, ev_idx, ev_sl, ev_rev, ev_tup, ev_lst, ev_comp, ev_comp2, evIt_seq, evIt_rng1, evIt_rng2, evIt_zip, evIt_enum, evL, evO, evC, evCo, bd_some, bs_some, rt_def, lf_some, nx0_some, bindT_nm, bindT_tp, bindTs_nil, bindTs_cons, wipeE, startE, setNx, setSl, slot, modV, seqV_lst, seqV_tup, zipV_ll, zipV_tt, zipV_lt, zipV_tl, enumV_lst, enumV_tup, biV_lenL, biV_lenT, biV_sumL, biV_sumT, biV_allL, biV_anyL, biV_listL, biV_listT, biV_tupL, biV_tupT, biV_intI, binV_addI, binV_subI, binV_addL, binV_addT, binV_mod, cmpV_eq, cmpV_ne, cmpV_lt, cmpV_le, cmpV_gt, cmpV_ge, cmpV_innL, cmpV_innT, cmpV_ninL, cmpV_ninT, isiV, slV, revV, idxV_l, idxV_t, endF, i2', i3]
    generalize hC : E.idx (.idx (.var 0) (.cst (.int 2))) (.var 3) = cc at hsub ⊢
    simp only [List.length_append, List.length_singleton] at z2
    simp [ev_b, evB1, evS1, ev_var, ev_pk, ev_cst, ev_gv, ev_gf, ev_bin, ev_neg, ev_not, ev_and, ev_or, ev_cmp, ev_isN, ev_isNN, ev_chain, ev_ite, ev_call, ev_callv, ev_bi, ev_isi, ev_mt, ev_idx, ev_sl, ev_rev, ev_tup, ev_lst, ev_comp, ev_comp2, evIt_seq, evIt_rng1, evIt_rng2, evIt_zip, evIt_enum, evL, evO, evC, evCo, bd_some, bs_some, rt_def, lf_some, nx0_some, bindT_nm, bindT_tp, bindTs_nil, bindTs_cons, wipeE, startE, setNx, setSl, slot, modV, seqV_lst, seqV_tup, zipV_ll, zipV_tt, zipV_lt, zipV_tl, enumV_lst, enumV_tup, biV_lenL, biV_lenT, biV_sumL, biV_sumT, biV_allL, biV_anyL, biV_listL, biV_listT, biV_tupL, biV_tupT, biV_intI, binV_addI, binV_subI, binV_addL, binV_addT, binV_mod, cmpV_eq, cmpV_ne, cmpV_lt, cmpV_le, cmpV_gt, cmpV_ge, cmpV_innL, cmpV_innT, cmpV_ninL, cmpV_ninT, isiV, slV, revV, idxV_l, idxV_t, endF, hsub, hc, hn, z1, z2, z3, appV])
  obtain ⟨rfl, s3, s4, rfl⟩ := h2
  rw [Nat.zero_add, enumP_length, List.length_map] at h1
  have hl1 : ∀ n, (ev tab (runF tab fns d) (n + 3)).e [.val SP, .no, .no, .no, .no, .no] g' (.bi .len (.idx (.var 0) (.cst (.int 1)))) = some (.v (.int mi), g') := fun n => by
    have e1 : (ev tab (runF tab fns d) (n + 2)).e [.val SP, .no, .no, .no, .no, .no] g' (.idx (.var 0) (.cst (.int 1))) = some (.v s.R, g') := by
      simp [ev_b, evB1, evS1, ev_var, ev_pk, ev_cst, ev_gv, ev_gf, ev_bin, ev_neg, ev_not, ev_and, ev_or, ev_cmp, ev_isN, ev_isNN, ev_chain, ev_ite, ev_call, ev_callv, ev_bi, ev_isi, ev_mt, ev_idx, ev_sl, ev_rev, ev_tup, ev_lst, ev_comp, ev_comp2, evIt_seq, evIt_rng1, evIt_rng2, evIt_zip, evIt_enum, evL, evO, evC, evCo, bd_some, bs_some, rt_def, lf_some, nx0_some, bindT_nm, bindT_tp, bindTs_nil, bindTs_cons, wipeE, startE, setNx, setSl, slot, modV, seqV_lst, seqV_tup, zipV_ll, zipV_tt, zipV_lt, zipV_tl, enumV_lst, enumV_tup, biV_lenL, biV_lenT, biV_sumL, biV_sumT, biV_allL, biV_anyL, biV_listL, biV_listT, biV_tupL, biV_tupT, biV_intI, binV_addI, binV_subI, binV_addL, binV_addT, binV_mod, cmpV_eq, cmpV_ne, cmpV_lt, cmpV_le, cmpV_gt, cmpV_ge, cmpV_innL, cmpV_innT, cmpV_ninL, cmpV_ninT, isiV, slV, revV, idxV_l, idxV_t, endF, i1]
    rw [ev_bi, e1, bd_some, hlen]
    rfl
  have hl2 : ∀ n, (ev tab (runF tab fns d) (n + 2)).e [.val SP, .val (.int mi), .own (.lst []), .no, .no, .no] g' (.idx (.var 0) (.cst (.int 1))) = some (.v s.R, g') := fun n => by
    simp [ev_b, evB1, evS1, ev_var, ev_pk, ev_cst, ev_gv, ev_gf, ev_bin, ev_neg, ev_not, ev_and, ev_or, ev_cmp, ev_isN, ev_isNN, ev_chain, ev_ite, ev_call, ev_callv, ev_bi, ev_isi, ev_mt, ev_idx, ev_sl, ev_rev, ev_tup, ev_lst, ev_comp, ev_comp2, evIt_seq, evIt_rng1, evIt_rng2, evIt_zip, evIt_enum, evL, evO, evC, evCo, bd_some, bs_some, rt_def, lf_some, nx0_some, bindT_nm, bindT_tp, bindTs_nil, bindTs_cons, wipeE, startE, setNx, setSl, slot, modV, seqV_lst, seqV_tup, zipV_ll, zipV_tt, zipV_lt, zipV_tl, enumV_lst, enumV_tup, biV_lenL, biV_lenT, biV_sumL, biV_sumT, biV_allL, biV_anyL, biV_listL, biV_listT, biV_tupL, biV_tupT, biV_intI, binV_addI, binV_subI, binV_addL, binV_addT, binV_mod, cmpV_eq, cmpV_ne, cmpV_lt, cmpV_le, cmpV_gt, cmpV_ge, cmpV_innL, cmpV_innT, cmpV_ninL, cmpV_ninT, isiV, slV, revV, idxV_l, idxV_t, endF, i1]
  rw [show f_widened.body = [.par true [(false, 1, .bi .len (.idx (.var 0) (.cst (.int 1)))), (true, 2, .lst [])], .for (.tp [.nm 3, .nm 4]) (.enum (.idx (.var 0) (.cst (.int 1)))) [.app 2 (.bin .add (.bin .add (.bi .list (.var 4)) (.lst [.idx (.idx (.var 0) (.cst (.int 2))) (.var 3)])) (.comp (.ite (.cmp .eq (.var 5) (.var 3)) (.cst (.int 1)) (.cst (.int 0))) (.nm 5) (.rng1 (.var 1)) .none [5]))], .rto 2] from rfl]
  have hN : f_widened.names.length = 6 := rfl
  rw [hN]
  generalize hC : E.bi .len (.idx (.var 0) (.cst (.int 1))) = cc at hl1 ⊢
  have eW : (widB s).map bL = ((List.range s.rows.length).map (widR s)).map bL := rfl
  rw [eW]
  generalize ((List.range s.rows.length).map (widR s)).map bL = WW at h1 ⊢
  generalize hB : [S.app 2 (.bin .add (.bin .add (.bi .list (.var 4)) (.lst [.idx (.idx (.var 0) (.cst (.int 2))) (.var 3)])) (.comp (.ite (.cmp .eq (.var 5) (.var 3)) (.cst (.int 1)) (.cst (.int 0))) (.nm 5) (.rng1 (.var 1)) .none [5]))] = bb at h1 ⊢
  simp [ev_b, evB1, evS1, ev_var, ev_pk, ev_cst, ev_gv, ev_gf, ev_bin, ev_neg, ev_not, ev_and, ev_or, ev_cmp, ev_isN, ev_isNN, ev_chain, ev_ite, ev_call, ev_callv, ev_bi, ev_isi, ev_mt, ev_idx, ev_sl, ev_rev, ev_tup, ev_lst, ev_comp, ev_comp2, evIt_seq, evIt_rng1, evIt_rng2, evIt_zip, evIt_enum, evL, evO, evC, evCo, bd_some, bs_some, rt_def, lf_some, nx0_some, bindT_nm, bindT_tp, bindTs_nil, bindTs_cons, wipeE, startE, setNx, setSl, slot, modV, seqV_lst, seqV_tup, zipV_ll, zipV_tt, zipV_lt, zipV_tl, enumV_lst, enumV_tup, biV_lenL, biV_lenT, biV_sumL, biV_sumT, biV_allL, biV_anyL, biV_listL, biV_listT, biV_tupL, biV_tupT, biV_intI, binV_addI, binV_subI, binV_addL, binV_addT, binV_mod, cmpV_eq, cmpV_ne, cmpV_lt, cmpV_le, cmpV_gt, cmpV_ge, cmpV_innL, cmpV_innT, cmpV_ninL, cmpV_ninT, isiV, slV, revV, idxV_l, idxV_t, endF, hl1, hl2, hen, h1, setAll]
end NK01
end

section
set_option Elab.async false
set_option linter.all false
set_option maxRecDepth 100000
set_option maxHeartbeats 2000000
namespace NK01
open PySem Z
theorem okds_iC (n : Nat) (C : List Nat) : okds n (iC C) = true := by
  unfold okds iC
  rw [List.all_eq_true]
  intro x hx
  obtain ⟨c, _, rfl⟩ := List.mem_map.mp hx
  exact okI n c
theorem inV_iC (w : Nat) : ∀ C : List Nat, inV (.int (w : Int)) (iC C) = decide (w ∈ C)
  | [] => rfl
  | c :: C => by
    show ((PV.int (c : Int)).eqv (.int (w : Int)) || inV (.int (w : Int)) (iC C)) = _
    rw [inV_iC w C, eqvI]
    by_cases h : c = w
    · subst h; simp
    · have h1 : ((c : Int) == (w : Int)) = false := beq_eq_false_iff_ne.mpr (by omega)
      have h2 : ¬ w = c := fun e => h e.symm
      rw [h1]
      simp [h2]
theorem place_iC (w : Nat) : ∀ (C : List Nat) (n : Nat), w ∈ C → placeV (.int (w : Int)) n (iC C) = some (n + C.idxOf w)
  | [], _, h => by cases h
  | c :: C, n, h => by
    show (if (PV.int (c : Int)).eqv (.int (w : Int)) then some n else placeV (.int (w : Int)) (n + 1) (iC C)) = _
    rw [eqvI]
    by_cases e : c = w
    · subst e
      rw [beq_self_eq_true, List.idxOf_cons_self]; rfl
    · have h1 : ((c : Int) == (w : Int)) = false := beq_eq_false_iff_ne.mpr (by omega)
      have h2 : w ∈ C := (List.mem_cons.mp h).resolve_left fun z => e z.symm
      have h3 : (c == w) = false := beq_eq_false_iff_ne.mpr e
      rw [h1, List.idxOf_cons, h3]
      simp only [Bool.false_eq_true, if_false, cond_false]
      rw [place_iC w C (n + 1) h2]
      congr 1
      omega
theorem cut_drop {α : Type} (xs : List α) (k : Nat) : Z.cut xs (some (k : Int)) none = xs.drop k := by
  unfold Z.cut
  rw [HT.sIx_nat, HT.sIx_none]
  by_cases h : k ≤ xs.length
  · rw [Nat.min_eq_left h, List.take_of_length_le (by rw [List.length_drop]; exact Nat.le_refl _)]
  · rw [Nat.min_eq_right (by omega), List.drop_length, List.drop_eq_nil_of_le (by omega), List.take_nil]
theorem cut_take {α : Type} (xs : List α) (k : Nat) : Z.cut xs none (some (k : Int)) = xs.take k := by
  unfold Z.cut
  rw [HT.sIx_nat, HT.sIx_none]
  rw [List.drop_zero, Nat.sub_zero]
  by_cases h : k ≤ xs.length
  · rw [Nat.min_eq_left h]
  · rw [Nat.min_eq_right (by omega), List.take_length, List.take_of_length_le (by omega)]
theorem rep_flat {x : PV} : ∀ n : Nat, (List.replicate n [x]).flatten = List.replicate n x
  | 0 => rfl
  | n + 1 => by
    rw [List.replicate_succ, List.flatten_cons, rep_flat n, List.replicate_succ]; rfl
theorem mulL {x : PV} {w : Nat} (h : w ≤ 1000) : binV .mul (.lst [x]) (.int (w : Int)) = some (.lst (List.replicate w x)) := by
  have e : ((w : Int)).toNat = w := Int.toNat_natCast w
  have h1 : decide ((w : Int) < 9223372036854775808) = true := decide_eq_true (by omega)
  have h2 : decide (-9223372036854775808 ≤ (w : Int)) = true := decide_eq_true (by omega)
  have h3 : decide (([x] : List PV).length * (w : Int).toNat ≤ LIM) = true := decide_eq_true (by
    rw [e]
    show 1 * w ≤ LIM
    rw [Nat.one_mul]
    exact Nat.le_trans h (by decide))
  show (if (decide ((w : Int) < 9223372036854775808) && decide (-9223372036854775808 ≤ (w : Int)) && decide (([x] : List PV).length * (w : Int).toNat ≤ LIM)) = true then some (PV.lst (List.replicate (w : Int).toNat [x]).flatten) else none) = _
  rw [h1, h2, h3, e, rep_flat]
  rfl
theorem mulT {x : PV} {w : Nat} (h : w ≤ 1000) : binV .mul (.tup [x]) (.int (w : Int)) = some (.tup (List.replicate w x)) := by
  have e : ((w : Int)).toNat = w := Int.toNat_natCast w
  have h1 : decide (0 ≤ (w : Int)) = true := decide_eq_true (by omega)
  have h2 : decide ((w : Int) ≤ 1000) = true := decide_eq_true (by omega)
  show (if (decide (0 ≤ (w : Int)) && decide ((w : Int) ≤ 1000) && decide (([x] : List PV).length ≤ 1000) && !([x] : List PV).isEmpty) = true then some (PV.tup (List.replicate (w : Int).toNat [x]).flatten) else none) = _
  rw [h1, h2, e, rep_flat]
  rfl
theorem rw_rep (w : Nat) (b : Bool) : List.replicate w (bI b) = rw (List.replicate w b) := by
  unfold rw
  rw [List.map_replicate]
theorem rw_set (r : Row) (i : Nat) (b : Bool) : (rw r).set i (bI b) = rw (r.set i b) := by
  unfold rw
  rw [List.map_set]
theorem put_rw {r : Row} {i : Nat} (b : Bool) (h : i < r.length) : putV (.int (i : Int)) (bI b) (.lst (rw r)) = some (.lst (rw (r.set i b))) := by
  have hx : ixN (rw r).length (i : Int) = some i := by
    unfold ixN L2.ixN
    unfold rw
    rw [List.length_map]
    rw [if_pos (by omega), if_pos (by omega), Int.toNat_natCast]
  show (match ixN (rw r).length (i : Int) with
    | some j => some (PV.lst ((rw r).set j (bI b)))
    | none => none) = _
  rw [hx, ← rw_set]
/-- the columns take their rows' bits at k -/
def fillB (k : Nat) (v : Row) (l : List (Row × Nat)) : Row := l.foldl (fun v p => v.set p.2 (p.1.getD k false)) v
theorem fillB_len (k : Nat) : ∀ (l : List (Row × Nat)) (v : Row), (fillB k v l).length = v.length
  | [], v => rfl
  | p :: l, v => by
    show (fillB k (v.set p.2 _) l).length = _
    rw [fillB_len k l, List.length_set]
theorem fillB_take (k : Nat) (v : Row) (l : List (Row × Nat)) (i : Nat) (p : Row × Nat) (h : l[i]? = some p) : fillB k v (l.take (i + 1)) = (fillB k v (l.take i)).set p.2 (p.1.getD k false) := by
  rw [List.take_succ, h]
  unfold fillB
  rw [List.foldl_append]
  rfl
theorem zip_iC (F : List Row) (C : List Nat) : zipP (F.map bL) (iC C) = (F.zip C).map fun p => .tup [bL p.1, .int (p.2 : Int)] := zipP_map bL (fun (c : Nat) => PV.int (c : Int)) F C
/-- for row, column in zip(rows, columns): name[column] = row[k] -/
theorem fill_loop (d : Nat) (F : List Row) (C : List Nat) (n k : Nat) (kE : E) (v0 : Row) (σ : Row → Sl → Sl → Z.Env) (iv ir ic : Nat) (g : G) (hF : ∀ r ∈ F, k < r.length) (hC : ∀ c ∈ C, c < v0.length)
    (step : ∀ (v : Row) (s s' : Sl) (r : Row) (ci : Int), (∃ c : Nat, ci = c ∧ c < v0.length ∧ v.length = v0.length) → r ∈ F → ∀ v', putV (.int ci) (bI (r.getD k false)) (.lst (rw v)) = some (.lst (rw v')) →
      ∃ ρ1, bindT (.tp [.nm ir, .nm ic]) (.tup [bL r, .int ci]) (σ v s s') = some ρ1 ∧ (ev tab (runF tab fns d) n).b ρ1 g [.sub iv (.var ic) (.idx (.var ir) kE)] = some (.nx (σ v' (.val (bL r)) (.val (.int ci))), g)) (s s' : Sl) :
    ∃ t t', forGo (ev tab (runF tab fns d) n).b (.tp [.nm ir, .nm ic]) [.sub iv (.var ic) (.idx (.var ir) kE)] (σ v0 s s') g (zipP (F.map bL) (iC C)) = some (.nx (σ (fillB k v0 (F.zip C)) t t'), g) := by
  rw [zip_iC]
  obtain ⟨ρ', g', h1, h2⟩ := forGo_inv (b := (ev tab (runF tab fns d) n).b) (t := .tp [.nm ir, .nm ic]) (body := [.sub iv (.var ic) (.idx (.var ir) kE)]) (so := .nx []) (l := [])
    (fun i ρ g' => g' = g ∧ ∃ t t', ρ = σ (fillB k v0 ((F.zip C).take i)) t t') ((F.zip C).map fun p => .tup [bL p.1, .int (p.2 : Int)]) 0 (σ v0 s s') g ⟨rfl, s, s', rfl⟩ (by
    rintro j ρ g' x hx ⟨rfl, t, t', rfl⟩
    rw [Nat.zero_add]
    rw [List.getElem?_map] at hx
    cases hp : (F.zip C)[j]? with
    | none => rw [hp] at hx; cases hx
    | some p =>
      rw [hp] at hx
      cases hx
      have hm := List.of_mem_zip (List.mem_of_getElem? hp)
      have hlt := hC p.2 hm.2
      have hlv : (fillB k v0 ((F.zip C).take j)).length = v0.length := fillB_len k _ _
      obtain ⟨ρ1, a1, a2⟩ := step (fillB k v0 ((F.zip C).take j)) t t' p.1 p.2 ⟨p.2, rfl, hlt, hlv⟩ hm.1 _ (put_rw (p.1.getD k false) (by rw [hlv]; exact hlt))
      exact ⟨ρ1, _, _, a1, .inl a2, rfl, _, _, by rw [fillB_take k v0 _ j p hp]⟩)
  obtain ⟨rfl, t, t', rfl⟩ := h2
  rw [Nat.zero_add, List.length_map, List.take_length] at h1
  exact ⟨t, t', h1⟩
def settB (s : Sy) : Bool × Row :=
  let q := redB (widB s) (s.w + 1)
  if s.w ∈ q.2.2 then (false, (q.2.1.getD (q.2.2.idxOf s.w) []).drop (s.w + 1)) else (true, fillB s.w (List.replicate s.w false) (q.2.1.zip q.2.2))
def settP (s : Sy) : PV := match settB s with
  | (true, x) => .tup [bT x, .non]
  | (false, y) => .tup [.non, bT y]
theorem widB_len (s : Sy) (ok : s.Ok) : ∀ r ∈ widB s, r.length = s.w + 1 + s.rows.length := by
  intro r hr
  obtain ⟨i, hi, rfl⟩ := List.mem_map.mp hr
  have hi := List.mem_range.mp hi
  unfold widR
  simp only [List.length_append, List.length_map, List.length_range, List.length_singleton]
  rw [List.getD_eq_getElem?_getD, List.getElem?_eq_getElem hi]
  rw [Option.getD_some, ok.r _ (List.getElem_mem hi)]
theorem r_settled (d : Nat) (s : Sy) (ok : s.Ok) (g : G) : runF tab fns (d + 3) 8 [s.P] g = some (.v (settP s), g) := by
  unfold Sy.P
  obtain ⟨wi, hwi⟩ : ∃ wi : Int, wi = s.w := ⟨_, rfl⟩
  rw [← hwi]
  rw [runF_at (f := f_settled) rfl rfl]
  have hw8 := ok.w
  have hm8 := ok.m
  have h1 := r_widened (d + 1) s ok wi g
  have hwl := widB_len s ok
  have hwn : (widB s).length = s.rows.length := by
    unfold widB
    rw [List.length_map, List.length_range]
  have h2 := r_reducedI d (widB s) (s.w + 1 + s.rows.length) (s.w + 1) (wi + 1) (by omega) (.lst ((widB s).map bL)) (.inr rfl) g (by omega) (by omega) (by omega) hwl
  have ln := redB_ln hwl (s.w + 1)
  have hlt := redB_lt (widB s) (s.w + 1)
  unfold settP settB
  generalize hq : redB (widB s) (s.w + 1) = q at h2 ln hlt ⊢
  obtain ⟨L, F, C⟩ := q
  simp only at h2 hlt ⊢
  obtain ⟨SP, hSP⟩ : ∃ SP : PV, SP = .tup [.int wi, s.R, bT s.right] := ⟨_, rfl⟩
  rw [← hSP] at h1 ⊢
  have i0 : ∀ g, idxV g SP (.int 0) = some (.int wi) := fun g => by rw [hSP]; rfl
  have hin := inV_iC s.w C
  rw [← hwi] at hin
  have hok := okds_iC DEEP C
  have hN : f_settled.names.length = 7 := rfl
  have lnf : ∀ r ∈ F, r.length = s.w + 1 + s.rows.length := ln.f
  have lcf : C.length = F.length := ln.cf
  rw [hN]
  by_cases hc : s.w ∈ C
  · rw [decide_eq_true hc] at hin
    rw [if_pos hc]
    have hpl := place_iC s.w C 0 hc
    rw [← hwi, Nat.zero_add] at hpl
    have hix : C.idxOf s.w < F.length := by rw [← lcf]; exact List.idxOf_lt_length_iff.mpr hc
    obtain ⟨ii, hii⟩ : ∃ ii : Int, ii = C.idxOf s.w := ⟨_, rfl⟩
    have hmt : mtV .index (.lst (iC C)) (.int wi) = some (.int ii) := by
      show (if ((PV.int wi).okd DEEP && okds DEEP (iC C)) = true then (placeV (.int wi) 0 (iC C)).map (fun (n : Nat) => PV.int (n : Int)) else none) = _
      rw [okI, hok, hpl, hii]; rfl
    have hat : atI (F.map bL) ii = some (bL (F.getD (C.idxOf s.w) [])) := by
      rw [hii]
      unfold atI L2.atI L2.ixN
      rw [List.length_map, if_pos (by omega), if_pos (by omega)]
      simp [hix]
    have hsl : slV (bL (F.getD (C.idxOf s.w) [])) (some (wi + 1)) none = some (.lst (rw ((F.getD (C.idxOf s.w) []).drop (s.w + 1)))) := by
      have : wi + 1 = ((s.w + 1 : Nat) : Int) := by omega
      rw [this]
      show some (PV.lst (Z.cut (rw _) _ _)) = _
      rw [cut_drop]
      unfold rw
      rw [List.map_drop]
    generalize hX1 : F.map bL = X1 at h2 hat
    generalize hX2 : iC C = X2 at h2 hin hok hmt
    generalize hX3 : (widB s).map bL = X3 at h1 h2
    generalize hX4 : bL (F.getD (C.idxOf s.w) []) = X4 at hat hsl
    have hsub : ∀ n, (ev tab (runF tab fns (d + 2)) (n + 4)).e [.val SP, .val (.int wi), .val (.lst X1), .val (.lst X2), .no, .no, .no] g (.sl (.idx (.var 2) (.mt .index (.var 3) (.var 1))) (.some (.bin .add (.var 1) (.cst (.int 1)))) .none) = some (.v (.lst (rw ((F.getD (C.idxOf s.w) []).drop (s.w + 1)))), g) := fun n => by
      have e1 : (ev tab (runF tab fns (d + 2)) (n + 3)).e [.val SP, .val (.int wi), .val (.lst X1), .val (.lst X2), .no, .no, .no] g (.idx (.var 2) (.mt .index (.var 3) (.var 1))) = some (.v X4, g) := by
        simp [ev_b, evB1, evS1, ev_var, ev_pk, ev_cst, ev_gv, ev_gf, ev_bin, ev_neg, ev_not, ev_and, ev_or, ev_cmp, ev_isN, ev_isNN, ev_chain, ev_ite, ev_call, ev_callv, ev_bi, ev_isi, ev_mt, ev_idx, ev_sl, ev_rev, ev_tup, ev_lst, ev_comp, ev_comp2, evIt_seq, evIt_rng1, evIt_rng2, evIt_zip, evIt_enum, evL, evO, evC, evCo, bd_some, bs_some, rt_def, lf_some, nx0_some, bindT_nm, bindT_tp, bindTs_nil, bindTs_cons, wipeE, startE, setNx, setSl, slot, modV, seqV_lst, seqV_tup, zipV_ll, zipV_tt, zipV_lt, zipV_tl, enumV_lst, enumV_tup, biV_lenL, biV_lenT, biV_sumL, biV_sumT, biV_allL, biV_anyL, biV_listL, biV_listT, biV_tupL, biV_tupT, biV_intI, binV_addI, binV_subI, binV_addL, binV_addT, binV_mod, cmpV_eq, cmpV_ne, cmpV_lt, cmpV_le, cmpV_gt, cmpV_ge, cmpV_innL, cmpV_innT, cmpV_ninL, cmpV_ninT, isiV, slV, revV, idxV_l, idxV_t, endF, hmt, hat]
      rw [ev_sl, e1, bd_some]
      have e2 : evO (ev tab (runF tab fns (d + 2)) (n + 3)).e [.val SP, .val (.int wi), .val (.lst X1), .val (.lst X2), .no, .no, .no] g (.some (.bin .add (.var 1) (.cst (.int 1)))) = some (.v (some (wi + 1)), g) := by
        simp [ev_b, evB1, evS1, ev_var, ev_pk, ev_cst, ev_gv, ev_gf, ev_bin, ev_neg, ev_not, ev_and, ev_or, ev_cmp, ev_isN, ev_isNN, ev_chain, ev_ite, ev_call, ev_callv, ev_bi, ev_isi, ev_mt, ev_idx, ev_sl, ev_rev, ev_tup, ev_lst, ev_comp, ev_comp2, evIt_seq, evIt_rng1, evIt_rng2, evIt_zip, evIt_enum, evL, evO, evC, evCo, bd_some, bs_some, rt_def, lf_some, nx0_some, bindT_nm, bindT_tp, bindTs_nil, bindTs_cons, wipeE, startE, setNx, setSl, slot, modV, seqV_lst, seqV_tup, zipV_ll, zipV_tt, zipV_lt, zipV_tl, enumV_lst, enumV_tup, biV_lenL, biV_lenT, biV_sumL, biV_sumT, biV_allL, biV_anyL, biV_listL, biV_listT, biV_tupL, biV_tupT, biV_intI, binV_addI, binV_subI, binV_addL, binV_addT, binV_mod, cmpV_eq, cmpV_ne, cmpV_lt, cmpV_le, cmpV_gt, cmpV_ge, cmpV_innL, cmpV_innT, cmpV_ninL, cmpV_ninT, isiV, slV, revV, idxV_l, idxV_t, endF]
      rw [e2, bd_some]
      show bd (rt none g) _ = _
      rw [rt_def, bd_some, hsl]
      rfl
    rw [show f_settled.body = [.set false 1 (.idx (.var 0) (.cst (.int 0))), .unp (.tp [.nm 2, .nm 3]) (.call 6 [.call 7 [.var 0], .bin .add (.var 1) (.cst (.int 1))]), .ite (.cmp .inn (.var 1) (.var 3)) [.ret (.tup [.cst .non, .bi .tuple (.sl (.idx (.var 2) (.mt .index (.var 3) (.var 1))) (.some (.bin .add (.var 1) (.cst (.int 1)))) .none)])] [], .set true 4 (.bin .mul (.lst [.cst (.int 0)]) (.var 1)), .for (.tp [.nm 5, .nm 6]) (.zip (.var 2) (.var 3)) [.sub 4 (.var 6) (.idx (.var 5) (.var 1))], .ret (.tup [.bi .tuple (.pk 4), .cst .non])] from rfl]
    generalize hcc : E.sl (.idx (.var 2) (.mt .index (.var 3) (.var 1))) (.some (.bin .add (.var 1) (.cst (.int 1)))) .none = cc at hsub ⊢
    simp [ev_b, evB1, evS1, ev_var, ev_pk, ev_cst, ev_gv, ev_gf, ev_bin, ev_neg, ev_not, ev_and, ev_or, ev_cmp, ev_isN, ev_isNN, ev_chain, ev_ite, ev_call, ev_callv, ev_bi, ev_isi, ev_mt, ev_idx, ev_sl, ev_rev, ev_tup, ev_lst, ev_comp, ev_comp2, evIt_seq, evIt_rng1, evIt_rng2, evIt_zip, evIt_enum, evL, evO, evC, evCo, bd_some, bs_some, rt_def, lf_some, nx0_some, bindT_nm, bindT_tp, bindTs_nil, bindTs_cons, wipeE, startE, setNx, setSl, slot, modV, seqV_lst, seqV_tup, zipV_ll, zipV_tt, zipV_lt, zipV_tl, enumV_lst, enumV_tup, biV_lenL, biV_lenT, biV_sumL, biV_sumT, biV_allL, biV_anyL, biV_listL, biV_listT, biV_tupL, biV_tupT, biV_intI, binV_addI, binV_subI, binV_addL, binV_addT, binV_mod, cmpV_eq, cmpV_ne, cmpV_lt, cmpV_le, cmpV_gt, cmpV_ge, cmpV_innL, cmpV_innT, cmpV_ninL, cmpV_ninT, isiV, slV, revV, idxV_l, idxV_t, endF, i0, h1, h2, hin, hok, okI, hsub, bT]
  · rw [decide_eq_false hc] at hin
    rw [if_neg hc]
    have hmul := mulL (x := .int 0) (w := s.w) (by omega)
    have hr0 : List.replicate s.w (PV.int 0) = rw (List.replicate s.w false) := rw_rep s.w false
    rw [hr0, ← hwi] at hmul
    obtain ⟨t, t', hfill⟩ := fill_loop (d + 2) F C 59 s.w (.var 1) (List.replicate s.w false) (fun v s1 s2 => [.val SP, .val (.int wi), .val (.lst (F.map bL)), .val (.lst (iC C)), .own (.lst (rw v)), s1, s2]) 4 5 6 g (fun r hr => by rw [lnf r hr]; omega) (fun c hcm => by
      rw [List.length_replicate]
      have h1 := hlt c hcm
      have h2 : c ≠ s.w := fun e => hc (e ▸ hcm)
      omega) (fun v s1 s2 r ci _ hr v' hput => by
      refine ⟨_, rfl, ?_⟩
      have hat : atI (rw r) wi = some (bI (r.getD s.w false)) := by
        rw [hwi]
        exact atI_rw (by rw [lnf r hr]; omega)
      generalize bI (r.getD s.w false) = X1 at hat hput
      generalize F.map bL = X2
      generalize iC C = X3
      simp [ev_b, evB1, evS1, ev_var, ev_pk, ev_cst, ev_gv, ev_gf, ev_bin, ev_neg, ev_not, ev_and, ev_or, ev_cmp, ev_isN, ev_isNN, ev_chain, ev_ite, ev_call, ev_callv, ev_bi, ev_isi, ev_mt, ev_idx, ev_sl, ev_rev, ev_tup, ev_lst, ev_comp, ev_comp2, evIt_seq, evIt_rng1, evIt_rng2, evIt_zip, evIt_enum, evL, evO, evC, evCo, bd_some, bs_some, rt_def, lf_some, nx0_some, bindT_nm, bindT_tp, bindTs_nil, bindTs_cons, wipeE, startE, setNx, setSl, slot, modV, seqV_lst, seqV_tup, zipV_ll, zipV_tt, zipV_lt, zipV_tl, enumV_lst, enumV_tup, biV_lenL, biV_lenT, biV_sumL, biV_sumT, biV_allL, biV_anyL, biV_listL, biV_listT, biV_tupL, biV_tupT, biV_intI, binV_addI, binV_subI, binV_addL, binV_addT, binV_mod, cmpV_eq, cmpV_ne, cmpV_lt, cmpV_le, cmpV_gt, cmpV_ge, cmpV_innL, cmpV_innT, cmpV_ninL, cmpV_ninT, isiV, slV, revV, idxV_l, idxV_t, endF, bL, hat, hput]) .no .no
    generalize hX1 : F.map bL = X1 at h2 hfill
    generalize hX2 : iC C = X2 at h2 hin hok hfill
    generalize hX3 : (widB s).map bL = X3 at h1 h2
    have hz : zipV (.lst X1) (.lst X2) = some (zipP X1 X2) := rfl
    simp [ev_b, evB1, evS1, ev_var, ev_pk, ev_cst, ev_gv, ev_gf, ev_bin, ev_neg, ev_not, ev_and, ev_or, ev_cmp, ev_isN, ev_isNN, ev_chain, ev_ite, ev_call, ev_callv, ev_bi, ev_isi, ev_mt, ev_idx, ev_sl, ev_rev, ev_tup, ev_lst, ev_comp, ev_comp2, evIt_seq, evIt_rng1, evIt_rng2, evIt_zip, evIt_enum, evL, evO, evC, evCo, bd_some, bs_some, rt_def, lf_some, nx0_some, bindT_nm, bindT_tp, bindTs_nil, bindTs_cons, wipeE, startE, setNx, setSl, slot, modV, seqV_lst, seqV_tup, zipV_ll, zipV_tt, zipV_lt, zipV_tl, enumV_lst, enumV_tup, biV_lenL, biV_lenT, biV_sumL, biV_sumT, biV_allL, biV_anyL, biV_listL, biV_listT, biV_tupL, biV_tupT, biV_intI, binV_addI, binV_subI, binV_addL, binV_addT, binV_mod, cmpV_eq, cmpV_ne, cmpV_lt, cmpV_le, cmpV_gt, cmpV_ge, cmpV_innL, cmpV_innT, cmpV_ninL, cmpV_ninT, isiV, slV, revV, idxV_l, idxV_t, endF, f_settled, i0, h1, h2, hin, hok, okI, hmul, hfill, bT]
end NK01
end

section
set_option Elab.async false
set_option linter.all false
set_option maxRecDepth 100000
set_option maxHeartbeats 2000000
namespace NK01
open PySem Z
def freeB (w : Nat) (C : List Nat) : List Nat := (List.range w).filter fun i => !decide (i ∈ C)
def vecB (w : Nat) (F : List Row) (C : List Nat) (f : Nat) : Row := fillB f ((List.replicate w false).set f true) (F.zip C)
def quietB (s : Sy) : List Row := (freeB s.w (redB s.rows s.w).2.2).map (vecB s.w (redB s.rows s.w).2.1 (redB s.rows s.w).2.2)
theorem vecB_len (w : Nat) (F : List Row) (C : List Nat) (f : Nat) : (vecB w F C f).length = w := by
  unfold vecB
  rw [fillB_len, List.length_set, List.length_replicate]
theorem r_quiet_in (d : Nat) (s : Sy) (ok : s.Ok) (g : G) : runF tab fns (d + 3) 9 [s.P] g = some (.v (.lst ((quietB s).map bT)), g) := by
  unfold Sy.P
  obtain ⟨wi, hwi⟩ : ∃ wi : Int, wi = s.w := ⟨_, rfl⟩
  rw [← hwi]
  rw [runF_at (f := f_quiet_in) rfl rfl]
  have hw8 := ok.w
  have hm8 := ok.m
  have h2 := r_reducedI d s.rows s.w s.w wi hwi s.R (.inl rfl) g (by omega) (Nat.le_refl _) (by omega) ok.r
  have ln := redB_ln ok.r s.w
  have hlt := redB_lt s.rows s.w
  have hn := small_n (n := s.w) (by omega)
  rw [← hwi] at hn
  unfold quietB
  generalize hq : redB s.rows s.w = q at h2 ln hlt ⊢
  obtain ⟨L, F, C⟩ := q
  simp only at h2 hlt ⊢
  have lnf : ∀ r ∈ F, r.length = s.w := ln.f
  obtain ⟨SP, hSP⟩ : ∃ SP : PV, SP = .tup [.int wi, s.R, bT s.right] := ⟨_, rfl⟩
  rw [← hSP]
  have i0 : ∀ g, idxV g SP (.int 0) = some (.int wi) := fun g => by rw [hSP]; rfl
  have i1 : ∀ g, idxV g SP (.int 1) = some s.R := fun g => by rw [hSP]; rfl
  have hok := okds_iC DEEP C
  have hN : f_quiet_in.names.length = 10 := rfl
  rw [hN]
  -- the free columns
  have hfr : compGo (ev tab (runF tab fns (d + 2)) 58).e [.val SP, .val (.int wi), .val (.lst (F.map bL)), .val (.lst (iC C)), .own (.lst []), .no, .no, .no, .no, .no] (.var 6) (.nm 6) (some (.cmp .nin (.var 6) (.var 3))) g (rng 0 s.w) = some (.v ((freeB s.w C).map fun (i : Nat) => .int (i : Int)), g) := by
    rw [rng0, compGo_filter (fun (i : Nat) => .int (i : Int)) (fun i => !decide (i ∈ C))]
    · rfl
    · intro i _
      refine ⟨_, rfl, ?_, fun _ => rfl⟩
      have hin := inV_iC i C
      obtain ⟨ii, hii⟩ : ∃ ii : Int, ii = i := ⟨_, rfl⟩
      rw [← hii] at hin ⊢
      generalize decide (i ∈ C) = y at hin ⊢
      generalize iC C = X at hin hok ⊢
      simp [ev_b, evB1, evS1, ev_var, ev_pk, ev_cst, ev_gv, ev_gf, ev_bin, ev_neg, ev_not, ev_and, ev_or, ev_cmp, ev_isN, ev_isNN, ev_chain, ev_ite, ev_call, ev_callv, ev_bi, ev_isi, ev_mt, ev_idx, ev_sl, ev_rev, ev_tup, ev_lst, ev_comp, ev_comp2, evIt_seq, evIt_rng1, evIt_rng2, evIt_zip, evIt_enum, evL, evO, evC, evCo, bd_some, bs_some, rt_def, lf_some, nx0_some, bindT_nm, bindT_tp, bindTs_nil, bindTs_cons, wipeE, startE, setNx, setSl, slot, modV, seqV_lst, seqV_tup, zipV_ll, zipV_tt, zipV_lt, zipV_tl, enumV_lst, enumV_tup, biV_lenL, biV_lenT, biV_sumL, biV_sumT, biV_allL, biV_anyL, biV_listL, biV_listT, biV_tupL, biV_tupT, biV_intI, binV_addI, binV_subI, binV_addL, binV_addT, binV_mod, cmpV_eq, cmpV_ne, cmpV_lt, cmpV_le, cmpV_gt, cmpV_ge, cmpV_innL, cmpV_innT, cmpV_ninL, cmpV_ninT, isiV, slV, revV, idxV_l, idxV_t, endF, hin, hok, okI]
  have hmul := mulL (x := .int 0) (w := s.w) (by omega)
  have hr0 : List.replicate s.w (PV.int 0) = rw (List.replicate s.w false) := rw_rep s.w false
  rw [hr0, ← hwi] at hmul
  obtain ⟨ρ', g', h1, hI⟩ := forGo_inv (b := (ev tab (runF tab fns (d + 2)) 59).b) (t := .nm 5) (body := [.set true 7 (.bin .mul (.lst [.cst (.int 0)]) (.var 1)), .sub 7 (.var 5) (.cst (.int 1)), .for (.tp [.nm 8, .nm 9]) (.zip (.var 2) (.var 3)) [.sub 7 (.var 9) (.idx (.var 8) (.var 5))], .app 4 (.bi .tuple (.pk 7))]) (so := .nx []) (l := [])
    (fun i ρ g' => g' = g ∧ ∃ s5 s7 s8 s9, ρ = [.val SP, .val (.int wi), .val (.lst (F.map bL)), .val (.lst (iC C)), .own (.lst ((((freeB s.w C).take i).map (vecB s.w F C)).map bT)), s5, .no, s7, s8, s9]) ((freeB s.w C).map fun (i : Nat) => .int (i : Int)) 0
    [.val SP, .val (.int wi), .val (.lst (F.map bL)), .val (.lst (iC C)), .own (.lst []), .no, .no, .no, .no, .no] g ⟨rfl, .no, .no, .no, .no, rfl⟩ (by
    rintro j ρ g' x hx ⟨rfl, s5, s7, s8, s9, rfl⟩
    rw [Nat.zero_add]
    rw [List.getElem?_map] at hx
    cases hf : (freeB s.w C)[j]? with
    | none => rw [hf] at hx; cases hx
    | some f =>
      rw [hf] at hx
      cases hx
      have hfm : f ∈ freeB s.w C := List.mem_of_getElem? hf
      unfold freeB at hfm
      rw [List.mem_filter, List.mem_range] at hfm
      obtain ⟨hfw, hfC⟩ := hfm
      obtain ⟨fi, hfi⟩ : ∃ fi : Int, fi = f := ⟨_, rfl⟩
      have hput : putV (.int fi) (.int 1) (.lst (rw (List.replicate s.w false))) = some (.lst (rw ((List.replicate s.w false).set f true))) := by
        rw [hfi]
        exact put_rw true (by rw [List.length_replicate]; exact hfw)
      have vl : ((List.replicate s.w false).set f true).length = s.w := by rw [List.length_set, List.length_replicate]
      obtain ⟨t, t', hfill⟩ := fill_loop (d + 2) F C 58 f (.var 5) ((List.replicate s.w false).set f true) (fun v s1 s2 => [.val SP, .val (.int wi), .val (.lst (F.map bL)), .val (.lst (iC C)), .own (.lst ((((freeB s.w C).take j).map (vecB s.w F C)).map bT)), .val (.int fi), .no, .own (.lst (rw v)), s1, s2]) 7 8 9 g' (fun r hr => by rw [lnf r hr]; exact hfw) (fun c hcm => by
        rw [vl]
        exact hlt c hcm) (fun v s1 s2 r ci _ hr v' hp => by
        refine ⟨_, rfl, ?_⟩
        have hat : atI (rw r) fi = some (bI (r.getD f false)) := by
          rw [hfi]
          exact atI_rw (by rw [lnf r hr]; exact hfw)
        generalize bI (r.getD f false) = X1 at hat hp
        generalize F.map bL = X2
        generalize iC C = X3
        generalize (((freeB s.w C).take j).map (vecB s.w F C)).map bT = X4
        simp [ev_b, evB1, evS1, ev_var, ev_pk, ev_cst, ev_gv, ev_gf, ev_bin, ev_neg, ev_not, ev_and, ev_or, ev_cmp, ev_isN, ev_isNN, ev_chain, ev_ite, ev_call, ev_callv, ev_bi, ev_isi, ev_mt, ev_idx, ev_sl, ev_rev, ev_tup, ev_lst, ev_comp, ev_comp2, evIt_seq, evIt_rng1, evIt_rng2, evIt_zip, evIt_enum, evL, evO, evC, evCo, bd_some, bs_some, rt_def, lf_some, nx0_some, bindT_nm, bindT_tp, bindTs_nil, bindTs_cons, wipeE, startE, setNx, setSl, slot, modV, seqV_lst, seqV_tup, zipV_ll, zipV_tt, zipV_lt, zipV_tl, enumV_lst, enumV_tup, biV_lenL, biV_lenT, biV_sumL, biV_sumT, biV_allL, biV_anyL, biV_listL, biV_listT, biV_tupL, biV_tupT, biV_intI, binV_addI, binV_subI, binV_addL, binV_addT, binV_mod, cmpV_eq, cmpV_ne, cmpV_lt, cmpV_le, cmpV_gt, cmpV_ge, cmpV_innL, cmpV_innT, cmpV_ninL, cmpV_ninT, isiV, slV, revV, idxV_l, idxV_t, endF, bL, hat, hp]) s8 s9
      have hz : ((((freeB s.w C).take j).map (vecB s.w F C)).map bT).length < LIM := by
        rw [List.length_map, List.length_map, List.length_take]
        have h1 : (freeB s.w C).length ≤ s.w := by
          unfold freeB
          refine Nat.le_trans (List.length_filter_le _ _) ?_
          rw [List.length_range]; exact Nat.le_refl _
        exact Nat.lt_of_le_of_lt (by omega : min j (freeB s.w C).length ≤ 8) (by decide)
      have et : (((freeB s.w C).take (j + 1)).map (vecB s.w F C)).map bT = (((freeB s.w C).take j).map (vecB s.w F C)).map bT ++ [.tup (rw (vecB s.w F C f))] := by
        rw [List.take_succ, hf, List.map_append, List.map_append]
        rfl
      have hev : fillB f ((List.replicate s.w false).set f true) (F.zip C) = vecB s.w F C f := rfl
      rw [hev] at hfill
      refine ⟨[.val SP, .val (.int wi), .val (.lst (F.map bL)), .val (.lst (iC C)), .own (.lst ((((freeB s.w C).take j).map (vecB s.w F C)).map bT)), .val (.int fi), .no, s7, s8, s9], [.val SP, .val (.int wi), .val (.lst (F.map bL)), .val (.lst (iC C)), .own (.lst ((((freeB s.w C).take (j + 1)).map (vecB s.w F C)).map bT)), .val (.int fi), .no, .own (.lst (rw (vecB s.w F C f))), t, t'], g', by rw [hfi]; rfl, .inl ?_, rfl, _, _, _, _, rfl⟩
      rw [et]
      generalize (((freeB s.w C).take j).map (vecB s.w F C)).map bT = X1 at hfill hz ⊢
      generalize rw (vecB s.w F C f) = X2 at hfill ⊢
      generalize rw ((List.replicate s.w false).set f true) = X3 at hfill hput ⊢
      generalize rw (List.replicate s.w false) = X4 at hput hmul ⊢
      generalize F.map bL = X5 at hfill ⊢
      generalize iC C = X6 at hfill ⊢
      simp [ev_b, evB1, evS1, ev_var, ev_pk, ev_cst, ev_gv, ev_gf, ev_bin, ev_neg, ev_not, ev_and, ev_or, ev_cmp, ev_isN, ev_isNN, ev_chain, ev_ite, ev_call, ev_callv, ev_bi, ev_isi, ev_mt, ev_idx, ev_sl, ev_rev, ev_tup, ev_lst, ev_comp, ev_comp2, evIt_seq, evIt_rng1, evIt_rng2, evIt_zip, evIt_enum, evL, evO, evC, evCo, bd_some, bs_some, rt_def, lf_some, nx0_some, bindT_nm, bindT_tp, bindTs_nil, bindTs_cons, wipeE, startE, setNx, setSl, slot, modV, seqV_lst, seqV_tup, zipV_ll, zipV_tt, zipV_lt, zipV_tl, enumV_lst, enumV_tup, biV_lenL, biV_lenT, biV_sumL, biV_sumT, biV_allL, biV_anyL, biV_listL, biV_listT, biV_tupL, biV_tupT, biV_intI, binV_addI, binV_subI, binV_addL, binV_addT, binV_mod, cmpV_eq, cmpV_ne, cmpV_lt, cmpV_le, cmpV_gt, cmpV_ge, cmpV_innL, cmpV_innT, cmpV_ninL, cmpV_ninT, isiV, slV, revV, idxV_l, idxV_t, endF, hmul, hput, hfill, hz, appV])
  obtain ⟨rfl, s5, s7, s8, s9, rfl⟩ := hI
  rw [Nat.zero_add, List.length_map, List.take_length] at h1
  generalize ((freeB s.w C).map (vecB s.w F C)).map bT = X1 at h1 ⊢
  generalize ((freeB s.w C).map fun (i : Nat) => PV.int (i : Int)) = X2 at h1 hfr
  generalize F.map bL = X5 at h1 h2 hfr ⊢
  generalize iC C = X6 at h1 h2 hfr ⊢
  simp [ev_b, evB1, evS1, ev_var, ev_pk, ev_cst, ev_gv, ev_gf, ev_bin, ev_neg, ev_not, ev_and, ev_or, ev_cmp, ev_isN, ev_isNN, ev_chain, ev_ite, ev_call, ev_callv, ev_bi, ev_isi, ev_mt, ev_idx, ev_sl, ev_rev, ev_tup, ev_lst, ev_comp, ev_comp2, evIt_seq, evIt_rng1, evIt_rng2, evIt_zip, evIt_enum, evL, evO, evC, evCo, bd_some, bs_some, rt_def, lf_some, nx0_some, bindT_nm, bindT_tp, bindTs_nil, bindTs_cons, wipeE, startE, setNx, setSl, slot, modV, seqV_lst, seqV_tup, zipV_ll, zipV_tt, zipV_lt, zipV_tl, enumV_lst, enumV_tup, biV_lenL, biV_lenT, biV_sumL, biV_sumT, biV_allL, biV_anyL, biV_listL, biV_listT, biV_tupL, biV_tupT, biV_intI, binV_addI, binV_subI, binV_addL, binV_addT, binV_mod, cmpV_eq, cmpV_ne, cmpV_lt, cmpV_le, cmpV_gt, cmpV_ge, cmpV_innL, cmpV_innT, cmpV_ninL, cmpV_ninT, isiV, slV, revV, idxV_l, idxV_t, endF, f_quiet_in, i0, i1, h1, h2, hfr, hn]
theorem r_solution (d : Nat) (s : Sy) (ok : s.Ok) (g : G) : runF tab fns (d + 5) 13 [s.P] g = some (.v (match settB s with | (true, x) => bT x | (false, _) => .non), g) := by
  have h1 := r_need d s ok g
  have h2 := r_settled (d + 1) s ok g
  rw [runF_at (f := f_even_solution) rfl rfl]
  unfold settP at h2
  generalize settB s = q at h2 ⊢
  obtain ⟨b, x⟩ := q
  generalize s.P = P at h1 h2 ⊢
  cases b with
  | true => simp [ev_b, evB1, evS1, ev_var, ev_pk, ev_cst, ev_gv, ev_gf, ev_bin, ev_neg, ev_not, ev_and, ev_or, ev_cmp, ev_isN, ev_isNN, ev_chain, ev_ite, ev_call, ev_callv, ev_bi, ev_isi, ev_mt, ev_idx, ev_sl, ev_rev, ev_tup, ev_lst, ev_comp, ev_comp2, evIt_seq, evIt_rng1, evIt_rng2, evIt_zip, evIt_enum, evL, evO, evC, evCo, bd_some, bs_some, rt_def, lf_some, nx0_some, bindT_nm, bindT_tp, bindTs_nil, bindTs_cons, wipeE, startE, setNx, setSl, slot, modV, seqV_lst, seqV_tup, zipV_ll, zipV_tt, zipV_lt, zipV_tl, enumV_lst, enumV_tup, biV_lenL, biV_lenT, biV_sumL, biV_sumT, biV_allL, biV_anyL, biV_listL, biV_listT, biV_tupL, biV_tupT, biV_intI, binV_addI, binV_subI, binV_addL, binV_addT, binV_mod, cmpV_eq, cmpV_ne, cmpV_lt, cmpV_le, cmpV_gt, cmpV_ge, cmpV_innL, cmpV_innT, cmpV_ninL, cmpV_ninT, isiV, slV, revV, idxV_l, idxV_t, endF, f_even_solution, h1, h2, at2_0]
  | false => simp [ev_b, evB1, evS1, ev_var, ev_pk, ev_cst, ev_gv, ev_gf, ev_bin, ev_neg, ev_not, ev_and, ev_or, ev_cmp, ev_isN, ev_isNN, ev_chain, ev_ite, ev_call, ev_callv, ev_bi, ev_isi, ev_mt, ev_idx, ev_sl, ev_rev, ev_tup, ev_lst, ev_comp, ev_comp2, evIt_seq, evIt_rng1, evIt_rng2, evIt_zip, evIt_enum, evL, evO, evC, evCo, bd_some, bs_some, rt_def, lf_some, nx0_some, bindT_nm, bindT_tp, bindTs_nil, bindTs_cons, wipeE, startE, setNx, setSl, slot, modV, seqV_lst, seqV_tup, zipV_ll, zipV_tt, zipV_lt, zipV_tl, enumV_lst, enumV_tup, biV_lenL, biV_lenT, biV_sumL, biV_sumT, biV_allL, biV_anyL, biV_listL, biV_listT, biV_tupL, biV_tupT, biV_intI, binV_addI, binV_subI, binV_addL, binV_addT, binV_mod, cmpV_eq, cmpV_ne, cmpV_lt, cmpV_le, cmpV_gt, cmpV_ge, cmpV_innL, cmpV_innT, cmpV_ninL, cmpV_ninT, isiV, slV, revV, idxV_l, idxV_t, endF, f_even_solution, h1, h2, at2_0]
theorem r_mask (d : Nat) (s : Sy) (ok : s.Ok) (g : G) : runF tab fns (d + 5) 14 [s.P] g = some (.v (match settB s with | (true, _) => .non | (false, y) => bT y), g) := by
  have h1 := r_need d s ok g
  have h2 := r_settled (d + 1) s ok g
  rw [runF_at (f := f_even_mask) rfl rfl]
  unfold settP at h2
  generalize settB s = q at h2 ⊢
  obtain ⟨b, x⟩ := q
  generalize s.P = P at h1 h2 ⊢
  cases b with
  | true => simp [ev_b, evB1, evS1, ev_var, ev_pk, ev_cst, ev_gv, ev_gf, ev_bin, ev_neg, ev_not, ev_and, ev_or, ev_cmp, ev_isN, ev_isNN, ev_chain, ev_ite, ev_call, ev_callv, ev_bi, ev_isi, ev_mt, ev_idx, ev_sl, ev_rev, ev_tup, ev_lst, ev_comp, ev_comp2, evIt_seq, evIt_rng1, evIt_rng2, evIt_zip, evIt_enum, evL, evO, evC, evCo, bd_some, bs_some, rt_def, lf_some, nx0_some, bindT_nm, bindT_tp, bindTs_nil, bindTs_cons, wipeE, startE, setNx, setSl, slot, modV, seqV_lst, seqV_tup, zipV_ll, zipV_tt, zipV_lt, zipV_tl, enumV_lst, enumV_tup, biV_lenL, biV_lenT, biV_sumL, biV_sumT, biV_allL, biV_anyL, biV_listL, biV_listT, biV_tupL, biV_tupT, biV_intI, binV_addI, binV_subI, binV_addL, binV_addT, binV_mod, cmpV_eq, cmpV_ne, cmpV_lt, cmpV_le, cmpV_gt, cmpV_ge, cmpV_innL, cmpV_innT, cmpV_ninL, cmpV_ninT, isiV, slV, revV, idxV_l, idxV_t, endF, f_even_mask, h1, h2, at2_1]
  | false => simp [ev_b, evB1, evS1, ev_var, ev_pk, ev_cst, ev_gv, ev_gf, ev_bin, ev_neg, ev_not, ev_and, ev_or, ev_cmp, ev_isN, ev_isNN, ev_chain, ev_ite, ev_call, ev_callv, ev_bi, ev_isi, ev_mt, ev_idx, ev_sl, ev_rev, ev_tup, ev_lst, ev_comp, ev_comp2, evIt_seq, evIt_rng1, evIt_rng2, evIt_zip, evIt_enum, evL, evO, evC, evCo, bd_some, bs_some, rt_def, lf_some, nx0_some, bindT_nm, bindT_tp, bindTs_nil, bindTs_cons, wipeE, startE, setNx, setSl, slot, modV, seqV_lst, seqV_tup, zipV_ll, zipV_tt, zipV_lt, zipV_tl, enumV_lst, enumV_tup, biV_lenL, biV_lenT, biV_sumL, biV_sumT, biV_allL, biV_anyL, biV_listL, biV_listT, biV_tupL, biV_tupT, biV_intI, binV_addI, binV_subI, binV_addL, binV_addT, binV_mod, cmpV_eq, cmpV_ne, cmpV_lt, cmpV_le, cmpV_gt, cmpV_ge, cmpV_innL, cmpV_innT, cmpV_ninL, cmpV_ninT, isiV, slV, revV, idxV_l, idxV_t, endF, f_even_mask, h1, h2, at2_1]
theorem r_quiet_rows (d : Nat) (s : Sy) (ok : s.Ok) (g : G) : runF tab fns (d + 5) 17 [s.P] g = some (.v (.tup ((quietB s).map bT)), g) := by
  have h1 := r_need d s ok g
  have h2 := r_quiet_in (d + 1) s ok g
  rw [runF_at (f := f_quiet_rows) rfl rfl]
  generalize (quietB s).map bT = Q at h2 ⊢
  generalize s.P = P at h1 h2 ⊢
  simp [ev_b, evB1, evS1, ev_var, ev_pk, ev_cst, ev_gv, ev_gf, ev_bin, ev_neg, ev_not, ev_and, ev_or, ev_cmp, ev_isN, ev_isNN, ev_chain, ev_ite, ev_call, ev_callv, ev_bi, ev_isi, ev_mt, ev_idx, ev_sl, ev_rev, ev_tup, ev_lst, ev_comp, ev_comp2, evIt_seq, evIt_rng1, evIt_rng2, evIt_zip, evIt_enum, evL, evO, evC, evCo, bd_some, bs_some, rt_def, lf_some, nx0_some, bindT_nm, bindT_tp, bindTs_nil, bindTs_cons, wipeE, startE, setNx, setSl, slot, modV, seqV_lst, seqV_tup, zipV_ll, zipV_tt, zipV_lt, zipV_tl, enumV_lst, enumV_tup, biV_lenL, biV_lenT, biV_sumL, biV_sumT, biV_allL, biV_anyL, biV_listL, biV_listT, biV_tupL, biV_tupT, biV_intI, binV_addI, binV_subI, binV_addL, binV_addT, binV_mod, cmpV_eq, cmpV_ne, cmpV_lt, cmpV_le, cmpV_gt, cmpV_ge, cmpV_innL, cmpV_innT, cmpV_ninL, cmpV_ninT, isiV, slV, revV, idxV_l, idxV_t, endF, f_quiet_rows, h1, h2]
end NK01
end

section
set_option Elab.async false
set_option linter.all false
set_option maxRecDepth 100000
set_option maxHeartbeats 2000000
namespace NK01
open PySem Z
theorem isW01 {x : PV} (h : isW x 0 1 = true) : ∃ b, x = bI b := by
  cases x with
  | int i =>
    simp only [isW, Bool.and_eq_true, decide_eq_true_eq] at h
    rcases (by omega : i = 0 ∨ i = 1) with e | e
    · subst e; exact ⟨false, rfl⟩
    · subst e; exact ⟨true, rfl⟩
  | _ => cases h
theorem bits_of : ∀ {l : List PV}, (l.all fun x => isW x 0 1) = true → ∃ r : Row, l = rw r
  | [], _ => ⟨[], rfl⟩
  | x :: l, h => by
    rw [List.all_cons, Bool.and_eq_true] at h
    obtain ⟨b, rfl⟩ := isW01 h.1
    obtain ⟨r, rfl⟩ := bits_of h.2
    exact ⟨b :: r, rfl⟩
theorem areW_bits {v : PV} {n : Nat} (h : areW v n 0 1 = true) : ∃ r : Row, v = bT r ∧ r.length = n := by
  cases v with
  | tup l =>
    simp only [areW, Bool.and_eq_true, decide_eq_true_eq] at h
    obtain ⟨r, rfl⟩ := bits_of h.2
    refine ⟨r, rfl, ?_⟩
    have := h.1
    unfold rw at this
    rw [List.length_map] at this
    omega
  | _ => cases h
theorem bad_isW {x : PV} (h : sca x = true) : bad x = !isW x 0 1 := by
  cases x with
  | int i =>
    simp only [bad, isW]
    by_cases h0 : i = 0
    · subst h0; rfl
    · by_cases h1 : i = 1
      · subst h1; rfl
      · have e0 : ((0 : Int) == i) = false := beq_eq_false_iff_ne.mpr fun e => h0 e.symm
        have e1 : ((1 : Int) == i) = false := beq_eq_false_iff_ne.mpr fun e => h1 e.symm
        rw [e0, e1]
        have : (decide (0 ≤ i) && decide (i ≤ 1)) = false := by
          rw [Bool.and_eq_false_iff, decide_eq_false_iff_not, decide_eq_false_iff_not]
          omega
        rw [this]
        rfl
  | bl b => rfl
  | _ => cases h
theorem anybad : ∀ {l : List PV}, (∀ x ∈ l, sca x = true) → (!l.any bad) = l.all fun x => isW x 0 1
  | [], _ => rfl
  | x :: l, hs => by
    rw [List.any_cons, List.all_cons, Bool.not_or, bad_isW (hs x List.mem_cons_self), Bool.not_not]
    rw [anybad fun y hy => hs y (List.mem_cons_of_mem _ hy)]
theorem isBits_areW {v : PV} {n : Int} (hs : ∀ l, v = .tup l → ∀ x ∈ l, sca x = true) : isBits v n = areW v n 0 1 := by
  cases v with
  | tup l =>
    simp only [isBits, areW]
    rw [anybad (hs l rfl)]
  | _ => rfl
def solB (s : Sy) (x : Row) : Bool := (s.rows.zip s.right).all fun p => dotB p.1 x == p.2
theorem all_map {α : Type} (l : List α) (f : α → Bool) : (l.map f).all id = l.all f := by
  rw [List.all_map]; rfl
theorem any_map {α : Type} (l : List α) (f : α → Bool) : (l.map f).any id = l.any f := by
  rw [List.any_map]; rfl
theorem eqBB (a b : Bool) : eqV (.bl a) (.bl b) = some (a == b) := by cases a <;> cases b <;> rfl
theorem i_of {s : Sy} {wi : Int} {SP : PV} (hSP : SP = .tup [.int wi, s.R, bT s.right]) (g : G) : idxV g SP (.int 0) = some (.int wi) ∧ idxV g SP (.int 1) = some s.R ∧ idxV g SP (.int 2) = some (bT s.right) := by
  subst hSP; exact ⟨rfl, rfl, rfl⟩
theorem r_is_sol (d : Nat) (s : Sy) (ok : s.Ok) (x : Row) (hx : x.length = s.w) (g : G) : runF tab fns (d + 5) 15 [s.P, bT x] g = some (.v (.bl (solB s x)), g) := by
  have h1 := r_need d s ok g
  unfold Sy.P at h1 ⊢
  obtain ⟨wi, hwi⟩ : ∃ wi : Int, wi = s.w := ⟨_, rfl⟩
  rw [← hwi] at h1 ⊢
  rw [runF_at (f := f_is_even_solution) rfl rfl]
  have h2 := r_areW_bT (d + 2) x wi g (by rw [hx, hwi])
  obtain ⟨SP, hSP⟩ : ∃ SP : PV, SP = .tup [.int wi, s.R, bT s.right] := ⟨_, rfl⟩
  rw [← hSP] at h1 ⊢
  obtain ⟨i0, i1, i2⟩ := i_of hSP g
  have hz : zipV s.R (bT s.right) = some (zipP (s.rows.map bT) (s.right.map bI)) := rfl
  have hc : compGo (ev tab (runF tab fns (d + 4)) 57).e [.val SP, .val (bT x), .no, .no] (.cmp .eq (.call 11 [.var 2, .var 1]) (.cmp .eq (.var 3) (.cst (.int 1)))) (.tp [.nm 2, .nm 3]) none g (zipP (s.rows.map bT) (s.right.map bI)) = some (.v ((s.rows.zip s.right).map fun p => .bl (dotB p.1 x == p.2)), g) := by
    rw [zipP_map, compGo_map fun p => .bl (dotB p.1 x == p.2)]
    intro p _
    refine ⟨_, rfl, ?_⟩
    have q := r_is_oddT (d + 3) p.1 x g
    have q2 := eqB p.2
    have q3 := eqBB (dotB p.1 x) p.2
    generalize dotB p.1 x = y at q q3 ⊢
    generalize bT p.1 = X1 at q ⊢
    generalize bT x = X2 at q ⊢
    simp only [bI]
    generalize p.2 = z at q2 q3 ⊢
    simp [ev_b, evB1, evS1, ev_var, ev_pk, ev_cst, ev_gv, ev_gf, ev_bin, ev_neg, ev_not, ev_and, ev_or, ev_cmp, ev_isN, ev_isNN, ev_chain, ev_ite, ev_call, ev_callv, ev_bi, ev_isi, ev_mt, ev_idx, ev_sl, ev_rev, ev_tup, ev_lst, ev_comp, ev_comp2, evIt_seq, evIt_rng1, evIt_rng2, evIt_zip, evIt_enum, evL, evO, evC, evCo, bd_some, bs_some, rt_def, lf_some, nx0_some, bindT_nm, bindT_tp, bindTs_nil, bindTs_cons, wipeE, startE, setNx, setSl, slot, modV, seqV_lst, seqV_tup, zipV_ll, zipV_tt, zipV_lt, zipV_tl, enumV_lst, enumV_tup, biV_lenL, biV_lenT, biV_sumL, biV_sumT, biV_allL, biV_anyL, biV_listL, biV_listT, biV_tupL, biV_tupT, biV_intI, binV_addI, binV_subI, binV_addL, binV_addT, binV_mod, cmpV_eq, cmpV_ne, cmpV_lt, cmpV_le, cmpV_gt, cmpV_ge, cmpV_innL, cmpV_innT, cmpV_ninL, cmpV_ninT, isiV, slV, revV, idxV_l, idxV_t, endF, q, q2, q3]
  have hb := blsOf_map (s.rows.zip s.right) fun p => dotB p.1 x == p.2
  have ha := all_map (s.rows.zip s.right) fun p => dotB p.1 x == p.2
  unfold solB
  rw [← ha]
  generalize ((s.rows.zip s.right).map fun p => PV.bl (dotB p.1 x == p.2)) = X1 at hc hb
  generalize ((s.rows.zip s.right).map fun p => dotB p.1 x == p.2) = X2 at hb ⊢
  generalize zipP (s.rows.map bT) (s.right.map bI) = X3 at hc hz
  generalize s.R = X4 at hz i1
  generalize bT s.right = X5 at hz i2
  generalize bT x = X6 at h2 hc ⊢
  simp [ev_b, evB1, evS1, ev_var, ev_pk, ev_cst, ev_gv, ev_gf, ev_bin, ev_neg, ev_not, ev_and, ev_or, ev_cmp, ev_isN, ev_isNN, ev_chain, ev_ite, ev_call, ev_callv, ev_bi, ev_isi, ev_mt, ev_idx, ev_sl, ev_rev, ev_tup, ev_lst, ev_comp, ev_comp2, evIt_seq, evIt_rng1, evIt_rng2, evIt_zip, evIt_enum, evL, evO, evC, evCo, bd_some, bs_some, rt_def, lf_some, nx0_some, bindT_nm, bindT_tp, bindTs_nil, bindTs_cons, wipeE, startE, setNx, setSl, slot, modV, seqV_lst, seqV_tup, zipV_ll, zipV_tt, zipV_lt, zipV_tl, enumV_lst, enumV_tup, biV_lenL, biV_lenT, biV_sumL, biV_sumT, biV_allL, biV_anyL, biV_listL, biV_listT, biV_tupL, biV_tupT, biV_intI, binV_addI, binV_subI, binV_addL, binV_addT, binV_mod, cmpV_eq, cmpV_ne, cmpV_lt, cmpV_le, cmpV_gt, cmpV_ge, cmpV_innL, cmpV_innT, cmpV_ninL, cmpV_ninT, isiV, slV, revV, idxV_l, idxV_t, endF, f_is_even_solution, h1, h2, i0, i1, i2, hz, hc, hb, flatP]
theorem r_is_sol_bad (d : Nat) (s : Sy) (ok : s.Ok) (v : PV) (hv : top v = true) (hs : ∀ l, v = .tup l → ∀ x ∈ l, sca x = true) (hb : areW v s.w 0 1 = false) (g : G) : runF tab fns (d + 5) 15 [s.P, v] g = some (.v (.bl false), g) := by
  have h1 := r_need d s ok g
  unfold Sy.P at h1 ⊢
  obtain ⟨wi, hwi⟩ : ∃ wi : Int, wi = s.w := ⟨_, rfl⟩
  rw [← hwi] at h1 hb ⊢
  rw [runF_at (f := f_is_even_solution) rfl rfl]
  have h2 := r_are_wholes (d + 2) v wi 0 1 g hv hs
  rw [hb] at h2
  obtain ⟨SP, hSP⟩ : ∃ SP : PV, SP = .tup [.int wi, s.R, bT s.right] := ⟨_, rfl⟩
  rw [← hSP] at h1 ⊢
  obtain ⟨i0, i1, i2⟩ := i_of hSP g
  simp [ev_b, evB1, evS1, ev_var, ev_pk, ev_cst, ev_gv, ev_gf, ev_bin, ev_neg, ev_not, ev_and, ev_or, ev_cmp, ev_isN, ev_isNN, ev_chain, ev_ite, ev_call, ev_callv, ev_bi, ev_isi, ev_mt, ev_idx, ev_sl, ev_rev, ev_tup, ev_lst, ev_comp, ev_comp2, evIt_seq, evIt_rng1, evIt_rng2, evIt_zip, evIt_enum, evL, evO, evC, evCo, bd_some, bs_some, rt_def, lf_some, nx0_some, bindT_nm, bindT_tp, bindTs_nil, bindTs_cons, wipeE, startE, setNx, setSl, slot, modV, seqV_lst, seqV_tup, zipV_ll, zipV_tt, zipV_lt, zipV_tl, enumV_lst, enumV_tup, biV_lenL, biV_lenT, biV_sumL, biV_sumT, biV_allL, biV_anyL, biV_listL, biV_listT, biV_tupL, biV_tupT, biV_intI, binV_addI, binV_subI, binV_addL, binV_addT, binV_mod, cmpV_eq, cmpV_ne, cmpV_lt, cmpV_le, cmpV_gt, cmpV_ge, cmpV_innL, cmpV_innT, cmpV_ninL, cmpV_ninT, isiV, slV, revV, idxV_l, idxV_t, endF, f_is_even_solution, h1, h2, i0, flatP]
def colB (s : Sy) (i : Nat) : Row := s.rows.map fun r => r.getD i false
def maskB (s : Sy) (y : Row) : Bool := dotB s.right y && !((List.range s.w).any fun i => dotB (colB s i) y)
theorem len_of {s : Sy} {mi : Int} (h : mi = s.rows.length) : biV .len s.R = some (.int mi) := by
  rw [h]
  show some (PV.int ((s.rows.map bT).length : Int)) = _
  rw [List.length_map]
theorem r_is_mask (d : Nat) (s : Sy) (ok : s.Ok) (y : Row) (hy : y.length = s.rows.length) (g : G) : runF tab fns (d + 5) 16 [s.P, bT y] g = some (.v (.bl (maskB s y)), g) := by
  have h1 := r_need d s ok g
  unfold Sy.P at h1 ⊢
  obtain ⟨wi, hwi⟩ : ∃ wi : Int, wi = s.w := ⟨_, rfl⟩
  obtain ⟨mi, hmi⟩ : ∃ mi : Int, mi = s.rows.length := ⟨_, rfl⟩
  rw [← hwi] at h1 ⊢
  rw [runF_at (f := f_is_even_mask) rfl rfl]
  have hw8 := ok.w
  have h2 := r_areW_bT (d + 2) y mi g (by rw [hy, hmi])
  have h3 := r_is_oddT (d + 3) s.right y g
  have hn := small_n (n := s.w) (by omega)
  rw [← hwi] at hn
  obtain ⟨SP, hSP⟩ : ∃ SP : PV, SP = .tup [.int wi, s.R, bT s.right] := ⟨_, rfl⟩
  rw [← hSP] at h1 ⊢
  obtain ⟨i0, i1, i2⟩ := i_of hSP g
  have hlen := len_of hmi
  have hsq : seqV s.R = some (s.rows.map bT) := rfl
  have hc : compGo (ev tab (runF tab fns (d + 4)) 56).e [.val SP, .val (bT y), .no, .no] (.call 11 [.comp (.idx (.var 2) (.var 3)) (.nm 2) (.seq (.idx (.var 0) (.cst (.int 1)))) .none [2], .var 1]) (.nm 3) none g (rng 0 s.w) = some (.v ((List.range s.w).map fun i => .bl (dotB (colB s i) y)), g) := by
    rw [rng0, compGo_map fun (i : Nat) => .bl (dotB (colB s i) y)]
    intro i hi
    refine ⟨_, rfl, ?_⟩
    have hi : i < s.w := List.mem_range.mp hi
    obtain ⟨ii, hii⟩ : ∃ ii : Int, ii = i := ⟨_, rfl⟩
    rw [← hii]
    have q : compGo (ev tab (runF tab fns (d + 4)) 54).e [.val SP, .val (bT y), .no, .val (.int ii)] (.idx (.var 2) (.var 3)) (.nm 2) none g (s.rows.map bT) = some (.v (rw (colB s i)), g) := by
      rw [compGo_map fun r => bI (r.getD i false)]
      · unfold colB rw
        rw [List.map_map]; rfl
      · intro r hr
        refine ⟨_, rfl, ?_⟩
        have := atI_rw (r := r) (i := i) (by rw [ok.r r hr]; exact hi)
        rw [← hii] at this
        generalize bI (r.getD i false) = z at this ⊢
        simp [ev_b, evB1, evS1, ev_var, ev_pk, ev_cst, ev_gv, ev_gf, ev_bin, ev_neg, ev_not, ev_and, ev_or, ev_cmp, ev_isN, ev_isNN, ev_chain, ev_ite, ev_call, ev_callv, ev_bi, ev_isi, ev_mt, ev_idx, ev_sl, ev_rev, ev_tup, ev_lst, ev_comp, ev_comp2, evIt_seq, evIt_rng1, evIt_rng2, evIt_zip, evIt_enum, evL, evO, evC, evCo, bd_some, bs_some, rt_def, lf_some, nx0_some, bindT_nm, bindT_tp, bindTs_nil, bindTs_cons, wipeE, startE, setNx, setSl, slot, modV, seqV_lst, seqV_tup, zipV_ll, zipV_tt, zipV_lt, zipV_tl, enumV_lst, enumV_tup, biV_lenL, biV_lenT, biV_sumL, biV_sumT, biV_allL, biV_anyL, biV_listL, biV_listT, biV_tupL, biV_tupT, biV_intI, binV_addI, binV_subI, binV_addL, binV_addT, binV_mod, cmpV_eq, cmpV_ne, cmpV_lt, cmpV_le, cmpV_gt, cmpV_ge, cmpV_innL, cmpV_innT, cmpV_ninL, cmpV_ninT, isiV, slV, revV, idxV_l, idxV_t, endF, bT, this]
    have q2 := r_is_oddL (d + 3) (colB s i) y g
    unfold bL at q2
    generalize rw (colB s i) = X1 at q q2
    generalize dotB (colB s i) y = X2 at q2 ⊢
    generalize bT y = X3 at q q2 ⊢
    generalize s.rows.map bT = X4 at q hsq
    generalize s.R = X5 at i1 hsq
    simp [ev_b, evB1, evS1, ev_var, ev_pk, ev_cst, ev_gv, ev_gf, ev_bin, ev_neg, ev_not, ev_and, ev_or, ev_cmp, ev_isN, ev_isNN, ev_chain, ev_ite, ev_call, ev_callv, ev_bi, ev_isi, ev_mt, ev_idx, ev_sl, ev_rev, ev_tup, ev_lst, ev_comp, ev_comp2, evIt_seq, evIt_rng1, evIt_rng2, evIt_zip, evIt_enum, evL, evO, evC, evCo, bd_some, bs_some, rt_def, lf_some, nx0_some, bindT_nm, bindT_tp, bindTs_nil, bindTs_cons, wipeE, startE, setNx, setSl, slot, modV, seqV_lst, seqV_tup, zipV_ll, zipV_tt, zipV_lt, zipV_tl, enumV_lst, enumV_tup, biV_lenL, biV_lenT, biV_sumL, biV_sumT, biV_allL, biV_anyL, biV_listL, biV_listT, biV_tupL, biV_tupT, biV_intI, binV_addI, binV_subI, binV_addL, binV_addT, binV_mod, cmpV_eq, cmpV_ne, cmpV_lt, cmpV_le, cmpV_gt, cmpV_ge, cmpV_innL, cmpV_innT, cmpV_ninL, cmpV_ninT, isiV, slV, revV, idxV_l, idxV_t, endF, i1, hsq, q, q2]
  have hb := blsOf_map (List.range s.w) fun i => dotB (colB s i) y
  have ha := any_map (List.range s.w) fun i => dotB (colB s i) y
  have hl2 : ∀ n, (ev tab (runF tab fns (d + 4)) (n + 3)).e [.val SP, .val (bT y), .no, .no] g (.bi .len (.idx (.var 0) (.cst (.int 1)))) = some (.v (.int mi), g) := fun n => by
    have e1 : (ev tab (runF tab fns (d + 4)) (n + 2)).e [.val SP, .val (bT y), .no, .no] g (.idx (.var 0) (.cst (.int 1))) = some (.v s.R, g) := by
      generalize bT y = X3
      simp [ev_b, evB1, evS1, ev_var, ev_pk, ev_cst, ev_gv, ev_gf, ev_bin, ev_neg, ev_not, ev_and, ev_or, ev_cmp, ev_isN, ev_isNN, ev_chain, ev_ite, ev_call, ev_callv, ev_bi, ev_isi, ev_mt, ev_idx, ev_sl, ev_rev, ev_tup, ev_lst, ev_comp, ev_comp2, evIt_seq, evIt_rng1, evIt_rng2, evIt_zip, evIt_enum, evL, evO, evC, evCo, bd_some, bs_some, rt_def, lf_some, nx0_some, bindT_nm, bindT_tp, bindTs_nil, bindTs_cons, wipeE, startE, setNx, setSl, slot, modV, seqV_lst, seqV_tup, zipV_ll, zipV_tt, zipV_lt, zipV_tl, enumV_lst, enumV_tup, biV_lenL, biV_lenT, biV_sumL, biV_sumT, biV_allL, biV_anyL, biV_listL, biV_listT, biV_tupL, biV_tupT, biV_intI, binV_addI, binV_subI, binV_addL, binV_addT, binV_mod, cmpV_eq, cmpV_ne, cmpV_lt, cmpV_le, cmpV_gt, cmpV_ge, cmpV_innL, cmpV_innT, cmpV_ninL, cmpV_ninT, isiV, slV, revV, idxV_l, idxV_t, endF, i1]
    rw [ev_bi, e1, bd_some, hlen]
    rfl
  unfold maskB
  rw [← ha]
  have hN : f_is_even_mask.names.length = 4 := rfl
  rw [hN]
  rw [show f_is_even_mask.body = [.ex (.call 4 [.var 0]), .ite (.or (.not (.call 2 [.var 1, .bi .len (.idx (.var 0) (.cst (.int 1))), .cst (.int 0), .cst (.int 1)])) (.not (.call 11 [.idx (.var 0) (.cst (.int 2)), .var 1]))) [.ret (.cst (.bl false))] [], .ret (.not (.bi .any (.comp (.call 11 [.comp (.idx (.var 2) (.var 3)) (.nm 2) (.seq (.idx (.var 0) (.cst (.int 1)))) .none [2], .var 1]) (.nm 3) (.rng1 (.idx (.var 0) (.cst (.int 0)))) .none [3])))] from rfl]
  generalize ((List.range s.w).map fun i => PV.bl (dotB (colB s i) y)) = X1 at hc hb
  generalize ((List.range s.w).map fun i => dotB (colB s i) y) = X2 at hb ⊢
  generalize bT s.right = X5 at i2 h3
  generalize bT y = X6 at h2 h3 hc hl2 ⊢
  generalize hC : E.bi .len (.idx (.var 0) (.cst (.int 1))) = cc at hl2 ⊢
  generalize dotB s.right y = z at h3 ⊢
  cases z with
  | false => simp [ev_b, evB1, evS1, ev_var, ev_pk, ev_cst, ev_gv, ev_gf, ev_bin, ev_neg, ev_not, ev_and, ev_or, ev_cmp, ev_isN, ev_isNN, ev_chain, ev_ite, ev_call, ev_callv, ev_bi, ev_isi, ev_mt, ev_idx, ev_sl, ev_rev, ev_tup, ev_lst, ev_comp, ev_comp2, evIt_seq, evIt_rng1, evIt_rng2, evIt_zip, evIt_enum, evL, evO, evC, evCo, bd_some, bs_some, rt_def, lf_some, nx0_some, bindT_nm, bindT_tp, bindTs_nil, bindTs_cons, wipeE, startE, setNx, setSl, slot, modV, seqV_lst, seqV_tup, zipV_ll, zipV_tt, zipV_lt, zipV_tl, enumV_lst, enumV_tup, biV_lenL, biV_lenT, biV_sumL, biV_sumT, biV_allL, biV_anyL, biV_listL, biV_listT, biV_tupL, biV_tupT, biV_intI, binV_addI, binV_subI, binV_addL, binV_addT, binV_mod, cmpV_eq, cmpV_ne, cmpV_lt, cmpV_le, cmpV_gt, cmpV_ge, cmpV_innL, cmpV_innT, cmpV_ninL, cmpV_ninT, isiV, slV, revV, idxV_l, idxV_t, endF, h1, h2, h3, i0, i2, hl2, flatP]
  | true => simp [ev_b, evB1, evS1, ev_var, ev_pk, ev_cst, ev_gv, ev_gf, ev_bin, ev_neg, ev_not, ev_and, ev_or, ev_cmp, ev_isN, ev_isNN, ev_chain, ev_ite, ev_call, ev_callv, ev_bi, ev_isi, ev_mt, ev_idx, ev_sl, ev_rev, ev_tup, ev_lst, ev_comp, ev_comp2, evIt_seq, evIt_rng1, evIt_rng2, evIt_zip, evIt_enum, evL, evO, evC, evCo, bd_some, bs_some, rt_def, lf_some, nx0_some, bindT_nm, bindT_tp, bindTs_nil, bindTs_cons, wipeE, startE, setNx, setSl, slot, modV, seqV_lst, seqV_tup, zipV_ll, zipV_tt, zipV_lt, zipV_tl, enumV_lst, enumV_tup, biV_lenL, biV_lenT, biV_sumL, biV_sumT, biV_allL, biV_anyL, biV_listL, biV_listT, biV_tupL, biV_tupT, biV_intI, binV_addI, binV_subI, binV_addL, binV_addT, binV_mod, cmpV_eq, cmpV_ne, cmpV_lt, cmpV_le, cmpV_gt, cmpV_ge, cmpV_innL, cmpV_innT, cmpV_ninL, cmpV_ninT, isiV, slV, revV, idxV_l, idxV_t, endF, h1, h2, h3, i0, i2, hl2, hn, hc, hb, flatP]
theorem r_is_mask_bad (d : Nat) (s : Sy) (ok : s.Ok) (v : PV) (hv : top v = true) (hs : ∀ l, v = .tup l → ∀ x ∈ l, sca x = true) (hb : areW v s.rows.length 0 1 = false) (g : G) : runF tab fns (d + 5) 16 [s.P, v] g = some (.v (.bl false), g) := by
  have h1 := r_need d s ok g
  unfold Sy.P at h1 ⊢
  obtain ⟨wi, hwi⟩ : ∃ wi : Int, wi = s.w := ⟨_, rfl⟩
  obtain ⟨mi, hmi⟩ : ∃ mi : Int, mi = s.rows.length := ⟨_, rfl⟩
  rw [← hwi] at h1 ⊢
  rw [← hmi] at hb
  rw [runF_at (f := f_is_even_mask) rfl rfl]
  have h2 := r_are_wholes (d + 2) v mi 0 1 g hv hs
  rw [hb] at h2
  obtain ⟨SP, hSP⟩ : ∃ SP : PV, SP = .tup [.int wi, s.R, bT s.right] := ⟨_, rfl⟩
  rw [← hSP] at h1 ⊢
  obtain ⟨i0, i1, i2⟩ := i_of hSP g
  have hlen := len_of hmi
  have hl2 : ∀ n, (ev tab (runF tab fns (d + 4)) (n + 3)).e [.val SP, .val v, .no, .no] g (.bi .len (.idx (.var 0) (.cst (.int 1)))) = some (.v (.int mi), g) := fun n => by
    have e1 : (ev tab (runF tab fns (d + 4)) (n + 2)).e [.val SP, .val v, .no, .no] g (.idx (.var 0) (.cst (.int 1))) = some (.v s.R, g) := by
      simp [ev_b, evB1, evS1, ev_var, ev_pk, ev_cst, ev_gv, ev_gf, ev_bin, ev_neg, ev_not, ev_and, ev_or, ev_cmp, ev_isN, ev_isNN, ev_chain, ev_ite, ev_call, ev_callv, ev_bi, ev_isi, ev_mt, ev_idx, ev_sl, ev_rev, ev_tup, ev_lst, ev_comp, ev_comp2, evIt_seq, evIt_rng1, evIt_rng2, evIt_zip, evIt_enum, evL, evO, evC, evCo, bd_some, bs_some, rt_def, lf_some, nx0_some, bindT_nm, bindT_tp, bindTs_nil, bindTs_cons, wipeE, startE, setNx, setSl, slot, modV, seqV_lst, seqV_tup, zipV_ll, zipV_tt, zipV_lt, zipV_tl, enumV_lst, enumV_tup, biV_lenL, biV_lenT, biV_sumL, biV_sumT, biV_allL, biV_anyL, biV_listL, biV_listT, biV_tupL, biV_tupT, biV_intI, binV_addI, binV_subI, binV_addL, binV_addT, binV_mod, cmpV_eq, cmpV_ne, cmpV_lt, cmpV_le, cmpV_gt, cmpV_ge, cmpV_innL, cmpV_innT, cmpV_ninL, cmpV_ninT, isiV, slV, revV, idxV_l, idxV_t, endF, i1]
    rw [ev_bi, e1, bd_some, hlen]
    rfl
  have hN : f_is_even_mask.names.length = 4 := rfl
  rw [hN]
  rw [show f_is_even_mask.body = [.ex (.call 4 [.var 0]), .ite (.or (.not (.call 2 [.var 1, .bi .len (.idx (.var 0) (.cst (.int 1))), .cst (.int 0), .cst (.int 1)])) (.not (.call 11 [.idx (.var 0) (.cst (.int 2)), .var 1]))) [.ret (.cst (.bl false))] [], .ret (.not (.bi .any (.comp (.call 11 [.comp (.idx (.var 2) (.var 3)) (.nm 2) (.seq (.idx (.var 0) (.cst (.int 1)))) .none [2], .var 1]) (.nm 3) (.rng1 (.idx (.var 0) (.cst (.int 0)))) .none [3])))] from rfl]
  generalize hC : E.bi .len (.idx (.var 0) (.cst (.int 1))) = cc at hl2 ⊢
  simp [ev_b, evB1, evS1, ev_var, ev_pk, ev_cst, ev_gv, ev_gf, ev_bin, ev_neg, ev_not, ev_and, ev_or, ev_cmp, ev_isN, ev_isNN, ev_chain, ev_ite, ev_call, ev_callv, ev_bi, ev_isi, ev_mt, ev_idx, ev_sl, ev_rev, ev_tup, ev_lst, ev_comp, ev_comp2, evIt_seq, evIt_rng1, evIt_rng2, evIt_zip, evIt_enum, evL, evO, evC, evCo, bd_some, bs_some, rt_def, lf_some, nx0_some, bindT_nm, bindT_tp, bindTs_nil, bindTs_cons, wipeE, startE, setNx, setSl, slot, modV, seqV_lst, seqV_tup, zipV_ll, zipV_tt, zipV_lt, zipV_tl, enumV_lst, enumV_tup, biV_lenL, biV_lenT, biV_sumL, biV_sumT, biV_allL, biV_anyL, biV_listL, biV_listT, biV_tupL, biV_tupT, biV_intI, binV_addI, binV_subI, binV_addL, binV_addT, binV_mod, cmpV_eq, cmpV_ne, cmpV_lt, cmpV_le, cmpV_gt, cmpV_ge, cmpV_innL, cmpV_innT, cmpV_ninL, cmpV_ninT, isiV, slV, revV, idxV_l, idxV_t, endF, h1, h2, hl2, flatP]
end NK01
end

section
set_option Elab.async false
set_option linter.all false
set_option maxRecDepth 100000
set_option maxHeartbeats 2000000
namespace NK01
open PySem Z
/-- a loop that tests each thing and leaves with False at the first that fails -/
theorem forGo_test {α : Type} {b : BV} {t : T} {body : List S} {mk : α → PV} (P : α → Bool) (σ : Sl → Z.Env) (g : G) : ∀ (l : List α), (∀ x ∈ l, ∀ s, ∃ ρ1, bindT t (mk x) (σ s) = some ρ1 ∧ (P x = true → ∃ s', b ρ1 g body = some (.nx (σ s'), g)) ∧ (P x = false → b ρ1 g body = some (.rt (.bl false), g))) → ∀ s,
    (l.all P = true → ∃ s', forGo b t body (σ s) g (l.map mk) = some (.nx (σ s'), g)) ∧ (l.all P = false → forGo b t body (σ s) g (l.map mk) = some (.rt (.bl false), g))
  | [], _, s => ⟨(fun _ => ⟨s, rfl⟩), (fun h => by cases h)⟩
  | x :: l, h, s => by
    obtain ⟨ρ1, h1, h2, h3⟩ := h x List.mem_cons_self s
    rw [List.map_cons, List.all_cons]
    cases hp : P x with
    | false =>
      refine ⟨(fun h => by cases h), fun _ => ?_⟩
      unfold forGo
      simp only [h1, h3 hp]
    | true =>
      obtain ⟨s', h2⟩ := h2 hp
      have e : forGo b t body (σ s) g (mk x :: l.map mk) = forGo b t body (σ s') g (l.map mk) := by
        rw [forGo]
        simp only [h1, h2]
      rw [e, Bool.true_and]
      exact forGo_test P σ g l (fun y hy => h y (List.mem_cons_of_mem _ hy)) s'
structure OkV (v : PV) : Prop where
  t : top v = true
  s : ∀ l, v = .tup l → ∀ x ∈ l, sca x = true
  k : v.okd 39 = true
def goodV (v : PV) (w many : Int) : Bool := match v with
  | .tup l => decide ((l.length : Int) = many) && l.all fun x => isBits x w
  | _ => false
theorem bits_rows {w : Nat} : ∀ {l : List PV}, (∀ x ∈ l, OkV x) → (l.all fun x => isBits x w) = true → ∃ V : List Row, l = V.map bT ∧ ∀ r ∈ V, r.length = w
  | [], _, _ => ⟨[], rfl, fun r hr => by cases hr⟩
  | x :: l, hk, h => by
    rw [List.all_cons, Bool.and_eq_true, isBits_areW (hk x List.mem_cons_self).s] at h
    obtain ⟨r, hr, hl⟩ := areW_bits h.1
    obtain ⟨V, hV, hw⟩ := bits_rows (fun y hy => hk y (List.mem_cons_of_mem _ hy)) h.2
    refine ⟨r :: V, by rw [hr, hV]; rfl, ?_⟩
    intro y hy
    cases hy with
    | head => exact hl
    | tail _ hy => exact hw y hy
theorem goodV_rows {v : PV} {w : Nat} {many : Int} (hk : ∀ l, v = .tup l → ∀ x ∈ l, OkV x) (h : goodV v w many = true) : ∃ V : List Row, v = .tup (V.map bT) ∧ (V.length : Int) = many ∧ ∀ r ∈ V, r.length = w := by
  cases v with
  | tup l =>
    simp only [goodV, Bool.and_eq_true, decide_eq_true_eq] at h
    obtain ⟨V, rfl, hw⟩ := bits_rows (hk l rfl) h.2
    refine ⟨V, rfl, ?_, hw⟩
    rw [← h.1, List.length_map]
  | _ => cases h
theorem filt_empty {α : Type} (l : List α) (p : α → Bool) : (l.filter fun x => !p x).isEmpty = l.all p := by
  induction l with
  | nil => rfl
  | cons x l ih =>
    rw [List.filter_cons, List.all_cons]
    cases hp : p x with
    | true => simpa using ih
    | false => rfl
theorem filt_empty' {α : Type} (l : List α) (p : α → Bool) : (l.filter p).isEmpty = l.all fun x => !p x := by
  have := filt_empty l fun x => !p x
  simp only [Bool.not_not] at this
  exact this
theorem r_is_quiet_bad (d : Nat) (s : Sy) (rk : Int) (v : PV) (hv : top v = true) (hk : ∀ l, v = .tup l → ∀ x ∈ l, OkV x) (hb : goodV v s.w (s.w - rk) = false) (g : G) : runF tab fns (d + 3) 31 [s.P, .int rk, v] g = some (.v (.bl false), g) := by
  unfold Sy.P
  obtain ⟨wi, hwi⟩ : ∃ wi : Int, wi = s.w := ⟨_, rfl⟩
  rw [← hwi] at hb ⊢
  rw [runF_at (f := f_law_is_quiet) rfl rfl]
  obtain ⟨SP, hSP⟩ : ∃ SP : PV, SP = .tup [.int wi, s.R, bT s.right] := ⟨_, rfl⟩
  rw [← hSP]
  obtain ⟨i0, i1, i2⟩ := i_of hSP g
  have hN : f_law_is_quiet.names.length = 6 := rfl
  rw [hN]
  cases v with
  | tup l =>
    have hk := hk l rfl
    obtain ⟨li, hli⟩ : ∃ li : Int, li = l.length := ⟨_, rfl⟩
    simp only [goodV] at hb
    rw [← hli] at hb
    have hl2 : ∀ n, (ev tab (runF tab fns (d + 2)) (n + 2)).e [.val SP, .val (.int rk), .val (.tup l), .val (.int (wi - rk)), .no, .no] g (.bi .len (.var 2)) = some (.v (.int li), g) := fun n => by
      rw [ev_bi, ev_var, hli]
      rfl
    have h : compGo (ev tab (runF tab fns (d + 2)) 55).e [.val SP, .val (.int rk), .val (.tup l), .val (.int (wi - rk)), .no, .no] (.var 4) (.nm 4) (some (.not (.call 29 [.var 4, .idx (.var 0) (.cst (.int 0))]))) g l = some (.v (l.filter fun x => !isBits x wi), g) := by
      have q := compGo_filter (e := (ev tab (runF tab fns (d + 2)) 55).e) (ρ := [.val SP, .val (.int rk), .val (.tup l), .val (.int (wi - rk)), .no, .no]) (elt := .var 4) (t := .nm 4) (g := g) (mk := fun x => x) (fun x => x) (fun x => !isBits x wi) (cc := .not (.call 29 [.var 4, .idx (.var 0) (.cst (.int 0))])) (l := l) fun x hx => ⟨_, rfl, (by
        have q := r_is_bits (d + 1) x wi g (hk x hx).t (hk x hx).s
        generalize isBits x wi = y at q ⊢
        simp [ev_b, evB1, evS1, ev_var, ev_pk, ev_cst, ev_gv, ev_gf, ev_bin, ev_neg, ev_not, ev_and, ev_or, ev_cmp, ev_isN, ev_isNN, ev_chain, ev_ite, ev_call, ev_callv, ev_bi, ev_isi, ev_mt, ev_idx, ev_sl, ev_rev, ev_tup, ev_lst, ev_comp, ev_comp2, evIt_seq, evIt_rng1, evIt_rng2, evIt_zip, evIt_enum, evL, evO, evC, evCo, bd_some, bs_some, rt_def, lf_some, nx0_some, bindT_nm, bindT_tp, bindTs_nil, bindTs_cons, wipeE, startE, setNx, setSl, slot, modV, seqV_lst, seqV_tup, zipV_ll, zipV_tt, zipV_lt, zipV_tl, enumV_lst, enumV_tup, biV_lenL, biV_lenT, biV_sumL, biV_sumT, biV_allL, biV_anyL, biV_listL, biV_listT, biV_tupL, biV_tupT, biV_intI, binV_addI, binV_subI, binV_addL, binV_addT, binV_mod, cmpV_eq, cmpV_ne, cmpV_lt, cmpV_le, cmpV_gt, cmpV_ge, cmpV_innL, cmpV_innT, cmpV_ninL, cmpV_ninT, isiV, slV, revV, idxV_l, idxV_t, endF, q, i0]), fun _ => rfl⟩
      rw [List.map_id', List.map_id'] at q
      exact q
    have hok : (PV.lst (l.filter fun x => !isBits x wi)).okd DEEP = true := by
      show (l.filter _).all (PV.okd 39) = true
      rw [List.all_eq_true]
      intro x hx
      exact (hk x (List.mem_filter.mp hx).1).k
    have he := eqE hok
    rw [filt_empty l fun x => isBits x wi] at he
    generalize (l.all fun x => isBits x wi) = y at he hb
    generalize (l.filter fun x => !isBits x wi) = X at h he
    rw [show f_law_is_quiet.body = [.set false 3 (.bin .sub (.idx (.var 0) (.cst (.int 0))) (.var 1)), .ite (.or (.not (.isi .tuple (.var 2))) (.or (.cmp .ne (.bi .len (.var 2)) (.var 3)) (.cmp .ne (.comp (.var 4) (.nm 4) (.seq (.var 2)) (.some (.not (.call 29 [.var 4, .idx (.var 0) (.cst (.int 0))]))) [4]) (.lst [])))) [.ret (.cst (.bl false))] [], .for (.nm 4) (.seq (.idx (.var 0) (.cst (.int 1)))) [.ite (.cmp .ne (.comp (.var 5) (.nm 5) (.seq (.var 2)) (.some (.cmp .eq (.call 26 [.var 4, .var 5]) (.cst (.int 1)))) [5]) (.lst [])) [.ret (.cst (.bl false))] []], .ret (.call 28 [.var 2, .idx (.var 0) (.cst (.int 0))])] from rfl]
    generalize hC : E.bi .len (.var 2) = cc at hl2 ⊢
    have hq := eqVI li (wi - rk)
    by_cases e : li = wi - rk
    · rw [decide_eq_true e, Bool.true_and] at hb
      rw [hb] at he
      rw [beq_iff_eq.mpr e] at hq
      simp [ev_b, evB1, evS1, ev_var, ev_pk, ev_cst, ev_gv, ev_gf, ev_bin, ev_neg, ev_not, ev_and, ev_or, ev_cmp, ev_isN, ev_isNN, ev_chain, ev_ite, ev_call, ev_callv, ev_bi, ev_isi, ev_mt, ev_idx, ev_sl, ev_rev, ev_tup, ev_lst, ev_comp, ev_comp2, evIt_seq, evIt_rng1, evIt_rng2, evIt_zip, evIt_enum, evL, evO, evC, evCo, bd_some, bs_some, rt_def, lf_some, nx0_some, bindT_nm, bindT_tp, bindTs_nil, bindTs_cons, wipeE, startE, setNx, setSl, slot, modV, seqV_lst, seqV_tup, zipV_ll, zipV_tt, zipV_lt, zipV_tl, enumV_lst, enumV_tup, biV_lenL, biV_lenT, biV_sumL, biV_sumT, biV_allL, biV_anyL, biV_listL, biV_listT, biV_tupL, biV_tupT, biV_intI, binV_addI, binV_subI, binV_addL, binV_addT, binV_mod, cmpV_eq, cmpV_ne, cmpV_lt, cmpV_le, cmpV_gt, cmpV_ge, cmpV_innL, cmpV_innT, cmpV_ninL, cmpV_ninT, isiV, slV, revV, idxV_l, idxV_t, endF, i0, hl2, hq, h, he, flatP]
    · rw [beq_eq_false_iff_ne.mpr e] at hq
      simp [ev_b, evB1, evS1, ev_var, ev_pk, ev_cst, ev_gv, ev_gf, ev_bin, ev_neg, ev_not, ev_and, ev_or, ev_cmp, ev_isN, ev_isNN, ev_chain, ev_ite, ev_call, ev_callv, ev_bi, ev_isi, ev_mt, ev_idx, ev_sl, ev_rev, ev_tup, ev_lst, ev_comp, ev_comp2, evIt_seq, evIt_rng1, evIt_rng2, evIt_zip, evIt_enum, evL, evO, evC, evCo, bd_some, bs_some, rt_def, lf_some, nx0_some, bindT_nm, bindT_tp, bindTs_nil, bindTs_cons, wipeE, startE, setNx, setSl, slot, modV, seqV_lst, seqV_tup, zipV_ll, zipV_tt, zipV_lt, zipV_tl, enumV_lst, enumV_tup, biV_lenL, biV_lenT, biV_sumL, biV_sumT, biV_allL, biV_anyL, biV_listL, biV_listT, biV_tupL, biV_tupT, biV_intI, binV_addI, binV_subI, binV_addL, binV_addT, binV_mod, cmpV_eq, cmpV_ne, cmpV_lt, cmpV_le, cmpV_gt, cmpV_ge, cmpV_innL, cmpV_innT, cmpV_ninL, cmpV_ninT, isiV, slV, revV, idxV_l, idxV_t, endF, i0, hl2, hq, flatP]
  | dic _ => cases hv
  | fn _ => cases hv
  | cell _ => cases hv
  | scr _ => cases hv
  | _ => simp [ev_b, evB1, evS1, ev_var, ev_pk, ev_cst, ev_gv, ev_gf, ev_bin, ev_neg, ev_not, ev_and, ev_or, ev_cmp, ev_isN, ev_isNN, ev_chain, ev_ite, ev_call, ev_callv, ev_bi, ev_isi, ev_mt, ev_idx, ev_sl, ev_rev, ev_tup, ev_lst, ev_comp, ev_comp2, evIt_seq, evIt_rng1, evIt_rng2, evIt_zip, evIt_enum, evL, evO, evC, evCo, bd_some, bs_some, rt_def, lf_some, nx0_some, bindT_nm, bindT_tp, bindTs_nil, bindTs_cons, wipeE, startE, setNx, setSl, slot, modV, seqV_lst, seqV_tup, zipV_ll, zipV_tt, zipV_lt, zipV_tl, enumV_lst, enumV_tup, biV_lenL, biV_lenT, biV_sumL, biV_sumT, biV_allL, biV_anyL, biV_listL, biV_listT, biV_tupL, biV_tupT, biV_intI, binV_addI, binV_subI, binV_addL, binV_addT, binV_mod, cmpV_eq, cmpV_ne, cmpV_lt, cmpV_le, cmpV_gt, cmpV_ge, cmpV_innL, cmpV_innT, cmpV_ninL, cmpV_ninT, isiV, slV, revV, idxV_l, idxV_t, endF, f_law_is_quiet, i0, flatP]
section
variable (d : Nat) (wi rk : Int) (g : G) (V : List Row) (SP : PV)
theorem quiet_h (hw : ∀ r ∈ V, (r.length : Int) = wi) (i0 : idxV g SP (.int 0) = some (.int wi)) (q0 : Sl) : compGo (ev tab (runF tab fns (d + 2)) 55).e [.val SP, .val (.int rk), .val (.tup (V.map bT)), q0, .no, .no] (.var 4) (.nm 4) (some (.not (.call 29 [.var 4, .idx (.var 0) (.cst (.int 0))]))) g (V.map bT) = some (.v [], g) := by
  rw [compGo_filter bT fun _ => false]
  · have hfe : (V.filter fun _ => false) = [] := List.filter_eq_nil_iff.mpr fun _ _ h => by cases h
    rw [hfe]; rfl
  intro x hx
  refine ⟨_, rfl, ?_, fun h => by cases h⟩
  have q := r_is_bits (d + 1) (bT x) wi g rfl fun l hl => by cases hl; exact sca_rw x
  rw [isBits_areW (fun l hl => by cases hl; exact sca_rw x), areW_bT, decide_eq_true (hw x hx)] at q
  generalize bT x = X at q ⊢
  generalize V.map bT = X2
  simp [ev_b, evB1, evS1, ev_var, ev_pk, ev_cst, ev_gv, ev_gf, ev_bin, ev_neg, ev_not, ev_and, ev_or, ev_cmp, ev_isN, ev_isNN, ev_chain, ev_ite, ev_call, ev_callv, ev_bi, ev_isi, ev_mt, ev_idx, ev_sl, ev_rev, ev_tup, ev_lst, ev_comp, ev_comp2, evIt_seq, evIt_rng1, evIt_rng2, evIt_zip, evIt_enum, evL, evO, evC, evCo, bd_some, bs_some, rt_def, lf_some, nx0_some, bindT_nm, bindT_tp, bindTs_nil, bindTs_cons, wipeE, startE, setNx, setSl, slot, modV, seqV_lst, seqV_tup, zipV_ll, zipV_tt, zipV_lt, zipV_tl, enumV_lst, enumV_tup, biV_lenL, biV_lenT, biV_sumL, biV_sumT, biV_allL, biV_anyL, biV_listL, biV_listT, biV_tupL, biV_tupT, biV_intI, binV_addI, binV_subI, binV_addL, binV_addT, binV_mod, cmpV_eq, cmpV_ne, cmpV_lt, cmpV_le, cmpV_gt, cmpV_ge, cmpV_innL, cmpV_innT, cmpV_ninL, cmpV_ninT, isiV, slV, revV, idxV_l, idxV_t, endF, q, i0]
theorem quiet_t (rows : List Row) (q0 : Sl) : (rows.all (fun r => V.all fun x => !dotB r x) = true → ∃ s', forGo (ev tab (runF tab fns (d + 2)) 59).b (.nm 4) [.ite (.cmp .ne (.comp (.var 5) (.nm 5) (.seq (.var 2)) (.some (.cmp .eq (.call 26 [.var 4, .var 5]) (.cst (.int 1)))) [5]) (.lst [])) [.ret (.cst (.bl false))] []] [.val SP, .val (.int rk), .val (.tup (V.map bT)), q0, .no, .no] g (rows.map bT) = some (.nx [.val SP, .val (.int rk), .val (.tup (V.map bT)), q0, s', .no], g)) ∧ (rows.all (fun r => V.all fun x => !dotB r x) = false → forGo (ev tab (runF tab fns (d + 2)) 59).b (.nm 4) [.ite (.cmp .ne (.comp (.var 5) (.nm 5) (.seq (.var 2)) (.some (.cmp .eq (.call 26 [.var 4, .var 5]) (.cst (.int 1)))) [5]) (.lst [])) [.ret (.cst (.bl false))] []] [.val SP, .val (.int rk), .val (.tup (V.map bT)), q0, .no, .no] g (rows.map bT) = some (.rt (.bl false), g)) :=
  forGo_test (b := (ev tab (runF tab fns (d + 2)) 59).b) (t := .nm 4) (body := [.ite (.cmp .ne (.comp (.var 5) (.nm 5) (.seq (.var 2)) (.some (.cmp .eq (.call 26 [.var 4, .var 5]) (.cst (.int 1)))) [5]) (.lst [])) [.ret (.cst (.bl false))] []]) (mk := bT) (fun r => V.all fun x => !dotB r x) (fun s => [.val SP, .val (.int rk), .val (.tup (V.map bT)), q0, s, .no]) g rows (by
    intro r hr s
    refine ⟨_, rfl, ?_⟩
    have h : compGo (ev tab (runF tab fns (d + 2)) 56).e [.val SP, .val (.int rk), .val (.tup (V.map bT)), q0, .val (bT r), .no] (.var 5) (.nm 5) (some (.cmp .eq (.call 26 [.var 4, .var 5]) (.cst (.int 1)))) g (V.map bT) = some (.v ((V.filter fun x => dotB r x).map bT), g) := by
      rw [compGo_filter bT fun x => dotB r x]
      intro x hx
      refine ⟨_, rfl, ?_, fun _ => rfl⟩
      have q := r_odd (d + 1) r x g
      have q2 := eqB (dotB r x)
      generalize dotB r x = y at q q2 ⊢
      generalize bT x = X at q ⊢
      generalize bT r = X1 at q ⊢
      generalize V.map bT = X2
      simp [ev_b, evB1, evS1, ev_var, ev_pk, ev_cst, ev_gv, ev_gf, ev_bin, ev_neg, ev_not, ev_and, ev_or, ev_cmp, ev_isN, ev_isNN, ev_chain, ev_ite, ev_call, ev_callv, ev_bi, ev_isi, ev_mt, ev_idx, ev_sl, ev_rev, ev_tup, ev_lst, ev_comp, ev_comp2, evIt_seq, evIt_rng1, evIt_rng2, evIt_zip, evIt_enum, evL, evO, evC, evCo, bd_some, bs_some, rt_def, lf_some, nx0_some, bindT_nm, bindT_tp, bindTs_nil, bindTs_cons, wipeE, startE, setNx, setSl, slot, modV, seqV_lst, seqV_tup, zipV_ll, zipV_tt, zipV_lt, zipV_tl, enumV_lst, enumV_tup, biV_lenL, biV_lenT, biV_sumL, biV_sumT, biV_allL, biV_anyL, biV_listL, biV_listT, biV_tupL, biV_tupT, biV_intI, binV_addI, binV_subI, binV_addL, binV_addT, binV_mod, cmpV_eq, cmpV_ne, cmpV_lt, cmpV_le, cmpV_gt, cmpV_ge, cmpV_innL, cmpV_innT, cmpV_ninL, cmpV_ninT, isiV, slV, revV, idxV_l, idxV_t, endF, q, q2]
    have he := eqE (okd_rows (V.filter fun x => dotB r x))
    rw [List.isEmpty_map, filt_empty' V fun x => dotB r x] at he
    generalize (V.all fun x => !dotB r x) = y at he ⊢
    generalize (V.filter fun x => dotB r x).map bT = X at h he
    generalize V.map bT = X2 at h ⊢
    generalize bT r = X1 at h ⊢
    constructor
    · intro hy
      refine ⟨.val X1, ?_⟩
      subst hy
      simp [ev_b, evB1, evS1, ev_var, ev_pk, ev_cst, ev_gv, ev_gf, ev_bin, ev_neg, ev_not, ev_and, ev_or, ev_cmp, ev_isN, ev_isNN, ev_chain, ev_ite, ev_call, ev_callv, ev_bi, ev_isi, ev_mt, ev_idx, ev_sl, ev_rev, ev_tup, ev_lst, ev_comp, ev_comp2, evIt_seq, evIt_rng1, evIt_rng2, evIt_zip, evIt_enum, evL, evO, evC, evCo, bd_some, bs_some, rt_def, lf_some, nx0_some, bindT_nm, bindT_tp, bindTs_nil, bindTs_cons, wipeE, startE, setNx, setSl, slot, modV, seqV_lst, seqV_tup, zipV_ll, zipV_tt, zipV_lt, zipV_tl, enumV_lst, enumV_tup, biV_lenL, biV_lenT, biV_sumL, biV_sumT, biV_allL, biV_anyL, biV_listL, biV_listT, biV_tupL, biV_tupT, biV_intI, binV_addI, binV_subI, binV_addL, binV_addT, binV_mod, cmpV_eq, cmpV_ne, cmpV_lt, cmpV_le, cmpV_gt, cmpV_ge, cmpV_innL, cmpV_innT, cmpV_ninL, cmpV_ninT, isiV, slV, revV, idxV_l, idxV_t, endF, h, he]
    · intro hy
      subst hy
      simp [ev_b, evB1, evS1, ev_var, ev_pk, ev_cst, ev_gv, ev_gf, ev_bin, ev_neg, ev_not, ev_and, ev_or, ev_cmp, ev_isN, ev_isNN, ev_chain, ev_ite, ev_call, ev_callv, ev_bi, ev_isi, ev_mt, ev_idx, ev_sl, ev_rev, ev_tup, ev_lst, ev_comp, ev_comp2, evIt_seq, evIt_rng1, evIt_rng2, evIt_zip, evIt_enum, evL, evO, evC, evCo, bd_some, bs_some, rt_def, lf_some, nx0_some, bindT_nm, bindT_tp, bindTs_nil, bindTs_cons, wipeE, startE, setNx, setSl, slot, modV, seqV_lst, seqV_tup, zipV_ll, zipV_tt, zipV_lt, zipV_tl, enumV_lst, enumV_tup, biV_lenL, biV_lenT, biV_sumL, biV_sumT, biV_allL, biV_anyL, biV_listL, biV_listT, biV_tupL, biV_tupT, biV_intI, binV_addI, binV_subI, binV_addL, binV_addT, binV_mod, cmpV_eq, cmpV_ne, cmpV_lt, cmpV_le, cmpV_gt, cmpV_ge, cmpV_innL, cmpV_innT, cmpV_ninL, cmpV_ninT, isiV, slV, revV, idxV_l, idxV_t, endF, h, he]) .no
end
theorem quiet_e3 (cf : CF) (wi rk : Int) (g : G) (SP : PV) (X2 : List PV) (s' q0 : Sl) (z : Bool) (i0 : idxV g SP (.int 0) = some (.int wi)) (h5 : cf 28 [.tup X2, .int wi] g = some (.v (.bl z), g)) : (ev tab cf 59).e [.val SP, .val (.int rk), .val (.tup X2), q0, s', .no] g (.call 28 [.var 2, .idx (.var 0) (.cst (.int 0))]) = some (.v (.bl z), g) := by
  simp [ev_b, evB1, evS1, ev_var, ev_pk, ev_cst, ev_gv, ev_gf, ev_bin, ev_neg, ev_not, ev_and, ev_or, ev_cmp, ev_isN, ev_isNN, ev_chain, ev_ite, ev_call, ev_callv, ev_bi, ev_isi, ev_mt, ev_idx, ev_sl, ev_rev, ev_tup, ev_lst, ev_comp, ev_comp2, evIt_seq, evIt_rng1, evIt_rng2, evIt_zip, evIt_enum, evL, evO, evC, evCo, bd_some, bs_some, rt_def, lf_some, nx0_some, bindT_nm, bindT_tp, bindTs_nil, bindTs_cons, wipeE, startE, setNx, setSl, slot, modV, seqV_lst, seqV_tup, zipV_ll, zipV_tt, zipV_lt, zipV_tl, enumV_lst, enumV_tup, biV_lenL, biV_lenT, biV_sumL, biV_sumT, biV_allL, biV_anyL, biV_listL, biV_listT, biV_tupL, biV_tupT, biV_intI, binV_addI, binV_subI, binV_addL, binV_addT, binV_mod, cmpV_eq, cmpV_ne, cmpV_lt, cmpV_le, cmpV_gt, cmpV_ge, cmpV_innL, cmpV_innT, cmpV_ninL, cmpV_ninT, isiV, slV, revV, idxV_l, idxV_t, endF, i0, h5]
theorem r_is_quiet (d : Nat) (s : Sy) (ok : s.Ok) (rk : Int) (V : List Row) (hw : ∀ r ∈ V, r.length = s.w) (hl : (V.length : Int) = s.w - rk) (h20 : V.length ≤ 20) (g : G) : runF tab fns (d + 3) 31 [s.P, .int rk, .tup (V.map bT)] g = some (.v (.bl ((s.rows.all fun r => V.all fun x => !dotB r x) && apartB V s.w)), g) := by
  have hw8 := ok.w
  unfold Sy.P
  obtain ⟨wi, hwi⟩ : ∃ wi : Int, wi = s.w := ⟨_, rfl⟩
  rw [← hwi] at hl ⊢
  rw [runF_at (f := f_law_is_quiet) rfl rfl]
  have h5 := r_apartT d V s.w wi hwi g (by omega) h20 fun r hr => by rw [hw r hr]; exact Nat.le_refl _
  obtain ⟨SP, hSP⟩ : ∃ SP : PV, SP = .tup [.int wi, s.R, bT s.right] := ⟨_, rfl⟩
  rw [← hSP]
  obtain ⟨i0, i1, i2⟩ := i_of hSP g
  have hN : f_law_is_quiet.names.length = 6 := rfl
  rw [hN]
  obtain ⟨li, hli⟩ : ∃ li : Int, li = V.length := ⟨_, rfl⟩
  rw [← hli] at hl
  have hlen : biV .len (.tup (V.map bT)) = some (.int li) := by
    show some (PV.int ((V.map bT).length : Int)) = _
    rw [List.length_map, hli]
  have h := quiet_h d wi rk g V SP (fun r hr => by rw [hw r hr, hwi]) i0 (.val (.int (wi - rk)))
  have he : eqV (.lst []) (.lst []) = some true := eqE (l := []) (okd_rows [])
  have hq := eqVI li (wi - rk)
  rw [beq_iff_eq.mpr hl] at hq
  have ht := quiet_t d rk g V SP s.rows (.val (.int (wi - rk)))
  have hsq : seqV s.R = some (s.rows.map bT) := rfl
  generalize (s.rows.all fun r => V.all fun x => !dotB r x) = y at ht ⊢
  generalize s.rows.map bT = X1 at ht hsq
  generalize s.R = X0 at i1 hsq
  generalize apartB V s.w = z at h5 ⊢
  clear hSP
  generalize V.map bT = X2 at h hlen ht h5 ⊢
  have hl2 : ∀ n, (ev tab (runF tab fns (d + 2)) (n + 2)).e [.val SP, .val (.int rk), .val (.tup X2), .val (.int (wi - rk)), .no, .no] g (.bi .len (.var 2)) = some (.v (.int li), g) := fun n => by
    have e1 : (ev tab (runF tab fns (d + 2)) (n + 1)).e [.val SP, .val (.int rk), .val (.tup X2), .val (.int (wi - rk)), .no, .no] g (.var 2) = some (.v (.tup X2), g) := rfl
    rw [ev_bi, e1, bd_some, hlen]
    rfl
  clear hlen
  rw [show f_law_is_quiet.body = [.set false 3 (.bin .sub (.idx (.var 0) (.cst (.int 0))) (.var 1)), .ite (.or (.not (.isi .tuple (.var 2))) (.or (.cmp .ne (.bi .len (.var 2)) (.var 3)) (.cmp .ne (.comp (.var 4) (.nm 4) (.seq (.var 2)) (.some (.not (.call 29 [.var 4, .idx (.var 0) (.cst (.int 0))]))) [4]) (.lst [])))) [.ret (.cst (.bl false))] [], .for (.nm 4) (.seq (.idx (.var 0) (.cst (.int 1)))) [.ite (.cmp .ne (.comp (.var 5) (.nm 5) (.seq (.var 2)) (.some (.cmp .eq (.call 26 [.var 4, .var 5]) (.cst (.int 1)))) [5]) (.lst [])) [.ret (.cst (.bl false))] []], .ret (.call 28 [.var 2, .idx (.var 0) (.cst (.int 0))])] from rfl]
  generalize hC : E.bi .len (.var 2) = cc at hl2 ⊢
  clear hC hl hli h20 hwi hw hw8
  cases y with
  | false =>
    have ht := ht.2 rfl
    clear h5
    generalize hB : [S.ite (.cmp .ne (.comp (.var 5) (.nm 5) (.seq (.var 2)) (.some (.cmp .eq (.call 26 [.var 4, .var 5]) (.cst (.int 1)))) [5]) (.lst [])) [.ret (.cst (.bl false))] []] = bb at ht ⊢
    simp [ev_b, evB1, evS1, ev_var, ev_pk, ev_cst, ev_gv, ev_gf, ev_bin, ev_neg, ev_not, ev_and, ev_or, ev_cmp, ev_isN, ev_isNN, ev_chain, ev_ite, ev_call, ev_callv, ev_bi, ev_isi, ev_mt, ev_idx, ev_sl, ev_rev, ev_tup, ev_lst, ev_comp, ev_comp2, evIt_seq, evIt_rng1, evIt_rng2, evIt_zip, evIt_enum, evL, evO, evC, evCo, bd_some, bs_some, rt_def, lf_some, nx0_some, bindT_nm, bindT_tp, bindTs_nil, bindTs_cons, wipeE, startE, setNx, setSl, slot, modV, seqV_lst, seqV_tup, zipV_ll, zipV_tt, zipV_lt, zipV_tl, enumV_lst, enumV_tup, biV_lenL, biV_lenT, biV_sumL, biV_sumT, biV_allL, biV_anyL, biV_listL, biV_listT, biV_tupL, biV_tupT, biV_intI, binV_addI, binV_subI, binV_addL, binV_addT, binV_mod, cmpV_eq, cmpV_ne, cmpV_lt, cmpV_le, cmpV_gt, cmpV_ge, cmpV_innL, cmpV_innT, cmpV_ninL, cmpV_ninT, isiV, slV, revV, idxV_l, idxV_t, endF, i0, i1, hl2, hq, h, he, hsq, ht, flatP]
  | true =>
    obtain ⟨s', ht⟩ := ht.1 rfl
    rw [Bool.true_and]
    generalize runF tab fns (d + 2) = cf at h hl2 ht h5 ⊢
    have e3 : (ev tab cf 59).e [.val SP, .val (.int rk), .val (.tup X2), .val (.int (wi - rk)), s', .no] g (.call 28 [.var 2, .idx (.var 0) (.cst (.int 0))]) = some (.v (.bl z), g) := by
      exact quiet_e3 cf wi rk g SP X2 s' _ z i0 h5
    generalize hB : [S.ite (.cmp .ne (.comp (.var 5) (.nm 5) (.seq (.var 2)) (.some (.cmp .eq (.call 26 [.var 4, .var 5]) (.cst (.int 1)))) [5]) (.lst [])) [.ret (.cst (.bl false))] []] = bb at ht ⊢
    generalize hB2 : E.call 28 [.var 2, .idx (.var 0) (.cst (.int 0))] = b2 at e3 ⊢
    clear h5
    simp [ev_b, evB1, evS1, ev_var, ev_pk, ev_cst, ev_gv, ev_gf, ev_bin, ev_neg, ev_not, ev_and, ev_or, ev_cmp, ev_isN, ev_isNN, ev_chain, ev_ite, ev_call, ev_callv, ev_bi, ev_isi, ev_mt, ev_idx, ev_sl, ev_rev, ev_tup, ev_lst, ev_comp, ev_comp2, evIt_seq, evIt_rng1, evIt_rng2, evIt_zip, evIt_enum, evL, evO, evC, evCo, bd_some, bs_some, rt_def, lf_some, nx0_some, bindT_nm, bindT_tp, bindTs_nil, bindTs_cons, wipeE, startE, setNx, setSl, slot, modV, seqV_lst, seqV_tup, zipV_ll, zipV_tt, zipV_lt, zipV_tl, enumV_lst, enumV_tup, biV_lenL, biV_lenT, biV_sumL, biV_sumT, biV_allL, biV_anyL, biV_listL, biV_listT, biV_tupL, biV_tupT, biV_intI, binV_addI, binV_subI, binV_addL, binV_addT, binV_mod, cmpV_eq, cmpV_ne, cmpV_lt, cmpV_le, cmpV_gt, cmpV_ge, cmpV_innL, cmpV_innT, cmpV_ninL, cmpV_ninT, isiV, slV, revV, idxV_l, idxV_t, endF, i0, i1, hl2, hq, h, he, hsq, ht, e3, flatP]
end NK01
end

section
set_option Elab.async false
set_option linter.all false
set_option maxRecDepth 100000
set_option maxHeartbeats 2000000
namespace NK01
open PySem Z
def aqB : List S := [.ex (.call 4 [.var 0]), .set false 2 (.bin .sub (.idx (.var 0) (.cst (.int 0))) (.call 10 [.var 0])), .ite (.or (.not (.call 1 [.var 1, .var 2, .var 2])) (.not (.bi .all (.comp (.call 2 [.var 3, .idx (.var 0) (.cst (.int 0)), .cst (.int 0), .cst (.int 1)]) (.nm 3) (.seq (.var 1)) .none [3])))) [.ret (.cst (.bl false))] [], .ite (.bi .any (.comp2 (.call 11 [.var 4, .var 3]) (.nm 4) (.seq (.idx (.var 0) (.cst (.int 1)))) .none (.nm 3) (.seq (.var 1)) .none [4, 3] [3])) [.ret (.cst (.bl false))] [], .ret (.cmp .eq (.bi .len (.idx (.call 6 [.var 1, .idx (.var 0) (.cst (.int 0))]) (.cst (.int 1)))) (.var 2))]
theorem aq_body : f_are_quiet_rows.body = aqB := rfl
section
variable (cf : CF) (wi rk : Int) (g : G) (SP : PV)
/-- the head: not a tuple of the right length, or a bad row -/
theorem aq_bad1 (v : PV) (h1 : cf 4 [SP] g = some (.v .non, g)) (h2 : cf 10 [SP] g = some (.v (.int rk), g)) (i0 : idxV g SP (.int 0) = some (.int wi)) (h3 : cf 1 [v, .int (wi - rk), .int (wi - rk)] g = some (.v (.bl false), g)) :
    endF g.length ((ev tab cf 60).b (startE 5 [SP, v]) g aqB) = some (.v (.bl false), g) := by
  simp [ev_b, evB1, evS1, ev_var, ev_pk, ev_cst, ev_gv, ev_gf, ev_bin, ev_neg, ev_not, ev_and, ev_or, ev_cmp, ev_isN, ev_isNN, ev_chain, ev_ite, ev_call, ev_callv, ev_bi, ev_isi, ev_mt, ev_idx, ev_sl, ev_rev, ev_tup, ev_lst, ev_comp, ev_comp2, evIt_seq, evIt_rng1, evIt_rng2, evIt_zip, evIt_enum, evL, evO, evC, evCo, bd_some, bs_some, rt_def, lf_some, nx0_some, bindT_nm, bindT_tp, bindTs_nil, bindTs_cons, wipeE, startE, setNx, setSl, slot, modV, seqV_lst, seqV_tup, zipV_ll, zipV_tt, zipV_lt, zipV_tl, enumV_lst, enumV_tup, biV_lenL, biV_lenT, biV_sumL, biV_sumT, biV_allL, biV_anyL, biV_listL, biV_listT, biV_tupL, biV_tupT, biV_intI, binV_addI, binV_subI, binV_addL, binV_addT, binV_mod, cmpV_eq, cmpV_ne, cmpV_lt, cmpV_le, cmpV_gt, cmpV_ge, cmpV_innL, cmpV_innT, cmpV_ninL, cmpV_ninT, isiV, slV, revV, idxV_l, idxV_t, endF, aqB, h1, h2, i0, h3, flatP]
theorem aq_bad2 (l : List PV) (X : List PV) (Y : List Bool) (h1 : cf 4 [SP] g = some (.v .non, g)) (h2 : cf 10 [SP] g = some (.v (.int rk), g)) (i0 : idxV g SP (.int 0) = some (.int wi)) (h3 : cf 1 [.tup l, .int (wi - rk), .int (wi - rk)] g = some (.v (.bl true), g))
    (h4 : compGo (ev tab cf 55).e [.val SP, .val (.tup l), .val (.int (wi - rk)), .no, .no] (.call 2 [.var 3, .idx (.var 0) (.cst (.int 0)), .cst (.int 0), .cst (.int 1)]) (.nm 3) none g l = some (.v X, g)) (hX : blsOf X = some Y) (hY : Y.all id = false) :
    endF g.length ((ev tab cf 60).b (startE 5 [SP, .tup l]) g aqB) = some (.v (.bl false), g) := by
  simp [ev_b, evB1, evS1, ev_var, ev_pk, ev_cst, ev_gv, ev_gf, ev_bin, ev_neg, ev_not, ev_and, ev_or, ev_cmp, ev_isN, ev_isNN, ev_chain, ev_ite, ev_call, ev_callv, ev_bi, ev_isi, ev_mt, ev_idx, ev_sl, ev_rev, ev_tup, ev_lst, ev_comp, ev_comp2, evIt_seq, evIt_rng1, evIt_rng2, evIt_zip, evIt_enum, evL, evO, evC, evCo, bd_some, bs_some, rt_def, lf_some, nx0_some, bindT_nm, bindT_tp, bindTs_nil, bindTs_cons, wipeE, startE, setNx, setSl, slot, modV, seqV_lst, seqV_tup, zipV_ll, zipV_tt, zipV_lt, zipV_tl, enumV_lst, enumV_tup, biV_lenL, biV_lenT, biV_sumL, biV_sumT, biV_allL, biV_anyL, biV_listL, biV_listT, biV_tupL, biV_tupT, biV_intI, binV_addI, binV_subI, binV_addL, binV_addT, binV_mod, cmpV_eq, cmpV_ne, cmpV_lt, cmpV_le, cmpV_gt, cmpV_ge, cmpV_innL, cmpV_innT, cmpV_ninL, cmpV_ninT, isiV, slV, revV, idxV_l, idxV_t, endF, aqB, h1, h2, i0, h3, h4, hX, hY, flatP]
theorem aq_good (l : List PV) (X X2 : List PV) (R : PV) (Rl : List PV) (Y Y2 : List Bool) (z : Bool) (C : List PV) (F : PV) (ci : Int) (h1 : cf 4 [SP] g = some (.v .non, g)) (h2 : cf 10 [SP] g = some (.v (.int rk), g)) (i0 : idxV g SP (.int 0) = some (.int wi)) (i1 : idxV g SP (.int 1) = some R) (h3 : cf 1 [.tup l, .int (wi - rk), .int (wi - rk)] g = some (.v (.bl true), g))
    (h4 : compGo (ev tab cf 55).e [.val SP, .val (.tup l), .val (.int (wi - rk)), .no, .no] (.call 2 [.var 3, .idx (.var 0) (.cst (.int 0)), .cst (.int 0), .cst (.int 1)]) (.nm 3) none g l = some (.v X, g)) (hX : blsOf X = some Y) (hY : Y.all id = true) (hR : seqV R = some Rl)
    (h5 : compGo2 (ev tab cf 57).e [.val SP, .val (.tup l), .val (.int (wi - rk)), .no, .no] (.call 11 [.var 4, .var 3]) (.nm 4) none (.nm 3) (.seq (.var 1)) none [3] g Rl = some (.v X2, g)) (hL : X2.length ≤ LIM) (hX2 : blsOf X2 = some Y2)
    (h6 : cf 6 [.tup l, .int wi] g = some (.v (.tup [F, .lst C]), g)) (hC : biV .len (.lst C) = some (.int ci)) (hz : eqV (.int ci) (.int (wi - rk)) = some z) :
    endF g.length ((ev tab cf 60).b (startE 5 [SP, .tup l]) g aqB) = some (.v (.bl (!Y2.any id && z)), g) := by
  have hl2 : ∀ n, (ev tab cf (n + 5)).e [.val SP, .val (.tup l), .val (.int (wi - rk)), .no, .no] g (.bi .len (.idx (.call 6 [.var 1, .idx (.var 0) (.cst (.int 0))]) (.cst (.int 1)))) = some (.v (.int ci), g) := fun n => by
    rw [ev_bi]
    have : (ev tab cf (n + 4)).e [.val SP, .val (.tup l), .val (.int (wi - rk)), .no, .no] g (.idx (.call 6 [.var 1, .idx (.var 0) (.cst (.int 0))]) (.cst (.int 1))) = some (.v (.lst C), g) := by
      simp [ev_b, evB1, evS1, ev_var, ev_pk, ev_cst, ev_gv, ev_gf, ev_bin, ev_neg, ev_not, ev_and, ev_or, ev_cmp, ev_isN, ev_isNN, ev_chain, ev_ite, ev_call, ev_callv, ev_bi, ev_isi, ev_mt, ev_idx, ev_sl, ev_rev, ev_tup, ev_lst, ev_comp, ev_comp2, evIt_seq, evIt_rng1, evIt_rng2, evIt_zip, evIt_enum, evL, evO, evC, evCo, bd_some, bs_some, rt_def, lf_some, nx0_some, bindT_nm, bindT_tp, bindTs_nil, bindTs_cons, wipeE, startE, setNx, setSl, slot, modV, seqV_lst, seqV_tup, zipV_ll, zipV_tt, zipV_lt, zipV_tl, enumV_lst, enumV_tup, biV_lenL, biV_lenT, biV_sumL, biV_sumT, biV_allL, biV_anyL, biV_listL, biV_listT, biV_tupL, biV_tupT, biV_intI, binV_addI, binV_subI, binV_addL, binV_addT, binV_mod, cmpV_eq, cmpV_ne, cmpV_lt, cmpV_le, cmpV_gt, cmpV_ge, cmpV_innL, cmpV_innT, cmpV_ninL, cmpV_ninT, isiV, slV, revV, idxV_l, idxV_t, endF, h6, i0, at2_1]
    rw [this, bd_some, hC]
    rfl
  unfold aqB
  generalize hCC : E.bi .len (.idx (.call 6 [.var 1, .idx (.var 0) (.cst (.int 0))]) (.cst (.int 1))) = cc at hl2 ⊢
  cases hY2 : Y2.any id with
  | true => simp [ev_b, evB1, evS1, ev_var, ev_pk, ev_cst, ev_gv, ev_gf, ev_bin, ev_neg, ev_not, ev_and, ev_or, ev_cmp, ev_isN, ev_isNN, ev_chain, ev_ite, ev_call, ev_callv, ev_bi, ev_isi, ev_mt, ev_idx, ev_sl, ev_rev, ev_tup, ev_lst, ev_comp, ev_comp2, evIt_seq, evIt_rng1, evIt_rng2, evIt_zip, evIt_enum, evL, evO, evC, evCo, bd_some, bs_some, rt_def, lf_some, nx0_some, bindT_nm, bindT_tp, bindTs_nil, bindTs_cons, wipeE, startE, setNx, setSl, slot, modV, seqV_lst, seqV_tup, zipV_ll, zipV_tt, zipV_lt, zipV_tl, enumV_lst, enumV_tup, biV_lenL, biV_lenT, biV_sumL, biV_sumT, biV_allL, biV_anyL, biV_listL, biV_listT, biV_tupL, biV_tupT, biV_intI, binV_addI, binV_subI, binV_addL, binV_addT, binV_mod, cmpV_eq, cmpV_ne, cmpV_lt, cmpV_le, cmpV_gt, cmpV_ge, cmpV_innL, cmpV_innT, cmpV_ninL, cmpV_ninT, isiV, slV, revV, idxV_l, idxV_t, endF, h1, h2, i0, i1, h3, h4, hX, hY, hR, h5, hL, hX2, hY2, flatP]
  | false => simp [ev_b, evB1, evS1, ev_var, ev_pk, ev_cst, ev_gv, ev_gf, ev_bin, ev_neg, ev_not, ev_and, ev_or, ev_cmp, ev_isN, ev_isNN, ev_chain, ev_ite, ev_call, ev_callv, ev_bi, ev_isi, ev_mt, ev_idx, ev_sl, ev_rev, ev_tup, ev_lst, ev_comp, ev_comp2, evIt_seq, evIt_rng1, evIt_rng2, evIt_zip, evIt_enum, evL, evO, evC, evCo, bd_some, bs_some, rt_def, lf_some, nx0_some, bindT_nm, bindT_tp, bindTs_nil, bindTs_cons, wipeE, startE, setNx, setSl, slot, modV, seqV_lst, seqV_tup, zipV_ll, zipV_tt, zipV_lt, zipV_tl, enumV_lst, enumV_tup, biV_lenL, biV_lenT, biV_sumL, biV_sumT, biV_allL, biV_anyL, biV_listL, biV_listT, biV_tupL, biV_tupT, biV_intI, binV_addI, binV_subI, binV_addL, binV_addT, binV_mod, cmpV_eq, cmpV_ne, cmpV_lt, cmpV_le, cmpV_gt, cmpV_ge, cmpV_innL, cmpV_innT, cmpV_ninL, cmpV_ninT, isiV, slV, revV, idxV_l, idxV_t, endF, h1, h2, i0, i1, h3, h4, hX, hY, hR, h5, hL, hX2, hY2, hl2, hz, flatP]
end
theorem aq_wh (d : Nat) (wi rk : Int) (g : G) (SP : PV) (l : List PV) (hk : ∀ x ∈ l, OkV x) (i0 : idxV g SP (.int 0) = some (.int wi)) (q : PV) : compGo (ev tab (runF tab fns (d + 4)) 55).e [.val SP, .val q, .val (.int (wi - rk)), .no, .no] (.call 2 [.var 3, .idx (.var 0) (.cst (.int 0)), .cst (.int 0), .cst (.int 1)]) (.nm 3) none g l = some (.v (l.map fun x => .bl (isBits x wi)), g) := by
  have q := compGo_map (e := (ev tab (runF tab fns (d + 4)) 55).e) (ρ := [.val SP, .val q, .val (.int (wi - rk)), .no, .no]) (elt := .call 2 [.var 3, .idx (.var 0) (.cst (.int 0)), .cst (.int 0), .cst (.int 1)]) (t := .nm 3) (g := g) (mk := fun x => x) (fun x => .bl (isBits x wi)) (l := l) fun x hx => ⟨_, rfl, (by
    have q := r_are_wholes (d + 2) x wi 0 1 g (hk x hx).t (hk x hx).s
    rw [← isBits_areW (hk x hx).s] at q
    generalize isBits x wi = y at q ⊢
    simp [ev_b, evB1, evS1, ev_var, ev_pk, ev_cst, ev_gv, ev_gf, ev_bin, ev_neg, ev_not, ev_and, ev_or, ev_cmp, ev_isN, ev_isNN, ev_chain, ev_ite, ev_call, ev_callv, ev_bi, ev_isi, ev_mt, ev_idx, ev_sl, ev_rev, ev_tup, ev_lst, ev_comp, ev_comp2, evIt_seq, evIt_rng1, evIt_rng2, evIt_zip, evIt_enum, evL, evO, evC, evCo, bd_some, bs_some, rt_def, lf_some, nx0_some, bindT_nm, bindT_tp, bindTs_nil, bindTs_cons, wipeE, startE, setNx, setSl, slot, modV, seqV_lst, seqV_tup, zipV_ll, zipV_tt, zipV_lt, zipV_tl, enumV_lst, enumV_tup, biV_lenL, biV_lenT, biV_sumL, biV_sumT, biV_allL, biV_anyL, biV_listL, biV_listT, biV_tupL, biV_tupT, biV_intI, binV_addI, binV_subI, binV_addL, binV_addT, binV_mod, cmpV_eq, cmpV_ne, cmpV_lt, cmpV_le, cmpV_gt, cmpV_ge, cmpV_innL, cmpV_innT, cmpV_ninL, cmpV_ninT, isiV, slV, revV, idxV_l, idxV_t, endF, q, i0])⟩
  rw [List.map_id'] at q
  exact q
theorem r_are_quiet_bad (d : Nat) (s : Sy) (ok : s.Ok) (v : PV) (hv : top v = true) (hk : ∀ l, v = .tup l → ∀ x ∈ l, OkV x) (hb : goodV v s.w (s.w - rankB s) = false) (g : G) : runF tab fns (d + 5) 18 [s.P, v] g = some (.v (.bl false), g) := by
  have h1 := r_need d s ok g
  have h2 := r_rank_in (d + 1) s ok g
  unfold Sy.P at h1 h2 ⊢
  obtain ⟨wi, hwi⟩ : ∃ wi : Int, wi = s.w := ⟨_, rfl⟩
  obtain ⟨rk, hrk⟩ : ∃ rk : Int, rk = rankB s := ⟨_, rfl⟩
  rw [← hwi] at h1 h2 hb ⊢
  rw [← hrk] at h2 hb
  rw [runF_at (f := f_are_quiet_rows) rfl rfl]
  obtain ⟨SP, hSP⟩ : ∃ SP : PV, SP = .tup [.int wi, s.R, bT s.right] := ⟨_, rfl⟩
  rw [← hSP] at h1 h2 ⊢
  obtain ⟨i0, i1, i2⟩ := i_of hSP g
  have h3 := r_is_tuple_of (d + 3) v (wi - rk) (wi - rk) g hv
  cases ht : isTup v (wi - rk) (wi - rk) with
  | false =>
    rw [ht] at h3
    exact aq_bad1 _ wi rk g SP v h1 h2 i0 h3
  | true =>
    rw [ht] at h3
    cases v with
    | tup l =>
      have hk := hk l rfl
      have h4 := aq_wh d wi rk g SP l hk i0 (.tup l)
      have hb2 : (l.map fun x => isBits x wi).all id = false := by
        rw [all_map]
        simp only [isTup, Bool.and_eq_true, decide_eq_true_eq] at ht
        simp only [goodV] at hb
        rw [decide_eq_true (by omega), Bool.true_and] at hb
        exact hb
      exact aq_bad2 _ wi rk g SP l _ _ h1 h2 i0 h3 h4 (blsOf_map l fun x => isBits x wi) hb2
    | _ => cases ht
theorem any_flat {α β : Type} (l : List α) (V : List β) (f : α → β → Bool) : (!(l.flatMap fun r => V.map (f r)).any id) = l.all fun r => V.all fun x => !f r x := by
  induction l with
  | nil => rfl
  | cons r l ih =>
    rw [List.flatMap_cons, List.any_append, Bool.not_or, ih, List.all_cons, any_map, List.not_any_eq_all_not]
theorem r_are_quiet (d : Nat) (s : Sy) (ok : s.Ok) (V : List Row) (hw : ∀ r ∈ V, r.length = s.w) (hl : (V.length : Int) = s.w - rankB s) (g : G) : runF tab fns (d + 5) 18 [s.P, .tup (V.map bT)] g = some (.v (.bl ((s.rows.all fun r => V.all fun x => !dotB r x) && decide ((redB V s.w).2.2.length = V.length))), g) := by
  have hw8 := ok.w
  have hm8 := ok.m
  have hV8 : V.length ≤ 8 := by omega
  have h1 := r_need d s ok g
  have h2 := r_rank_in (d + 1) s ok g
  unfold Sy.P at h1 h2 ⊢
  obtain ⟨wi, hwi⟩ : ∃ wi : Int, wi = s.w := ⟨_, rfl⟩
  obtain ⟨rk, hrk⟩ : ∃ rk : Int, rk = rankB s := ⟨_, rfl⟩
  rw [← hwi] at h1 h2 hl ⊢
  rw [← hrk] at h2 hl
  rw [runF_at (f := f_are_quiet_rows) rfl rfl]
  obtain ⟨SP, hSP⟩ : ∃ SP : PV, SP = .tup [.int wi, s.R, bT s.right] := ⟨_, rfl⟩
  rw [← hSP] at h1 h2 ⊢
  obtain ⟨i0, i1, i2⟩ := i_of hSP g
  have h3 := r_is_tuple_of (d + 3) (.tup (V.map bT)) (wi - rk) (wi - rk) g rfl
  have ht : isTup (.tup (V.map bT)) (wi - rk) (wi - rk) = true := by
    simp only [isTup, List.length_map, Bool.and_eq_true, decide_eq_true_eq]
    omega
  rw [ht] at h3
  have hk : ∀ x ∈ V.map bT, OkV x := fun x hx => by
    obtain ⟨r, _, rfl⟩ := List.mem_map.mp hx
    exact ⟨rfl, fun l hl => by cases hl; exact sca_rw r, okd_bT 38 r⟩
  have h4 := aq_wh d wi rk g SP (V.map bT) hk i0 (.tup (V.map bT))
  have hY : ((V.map bT).map fun x => isBits x wi).all id = true := by
    rw [all_map, List.all_eq_true]
    intro x hx
    rw [isBits_areW (hk x hx).s]
    obtain ⟨r, hr, rfl⟩ := List.mem_map.mp hx
    rw [areW_bT, hw r hr, hwi]
    exact decide_eq_true rfl
  have h5 : compGo2 (ev tab (runF tab fns (d + 4)) 57).e [.val SP, .val (.tup (V.map bT)), .val (.int (wi - rk)), .no, .no] (.call 11 [.var 4, .var 3]) (.nm 4) none (.nm 3) (.seq (.var 1)) none [3] g (s.rows.map bT) = some (.v (s.rows.flatMap fun r => V.map fun x => .bl (dotB r x)), g) := by
    rw [compGo2_map (fun _ => V) (fun r x => .bl (dotB r x)) (mk' := bT)]
    intro r hr
    refine ⟨_, rfl, ?_, ?_⟩
    · generalize V.map bT = X2
      generalize bT r = X1
      simp [ev_b, evB1, evS1, ev_var, ev_pk, ev_cst, ev_gv, ev_gf, ev_bin, ev_neg, ev_not, ev_and, ev_or, ev_cmp, ev_isN, ev_isNN, ev_chain, ev_ite, ev_call, ev_callv, ev_bi, ev_isi, ev_mt, ev_idx, ev_sl, ev_rev, ev_tup, ev_lst, ev_comp, ev_comp2, evIt_seq, evIt_rng1, evIt_rng2, evIt_zip, evIt_enum, evL, evO, evC, evCo, bd_some, bs_some, rt_def, lf_some, nx0_some, bindT_nm, bindT_tp, bindTs_nil, bindTs_cons, wipeE, startE, setNx, setSl, slot, modV, seqV_lst, seqV_tup, zipV_ll, zipV_tt, zipV_lt, zipV_tl, enumV_lst, enumV_tup, biV_lenL, biV_lenT, biV_sumL, biV_sumT, biV_allL, biV_anyL, biV_listL, biV_listT, biV_tupL, biV_tupT, biV_intI, binV_addI, binV_subI, binV_addL, binV_addT, binV_mod, cmpV_eq, cmpV_ne, cmpV_lt, cmpV_le, cmpV_gt, cmpV_ge, cmpV_innL, cmpV_innT, cmpV_ninL, cmpV_ninT, isiV, slV, revV, idxV_l, idxV_t, endF]
    · intro x hx
      refine ⟨_, rfl, ?_⟩
      have q := r_is_oddT (d + 3) r x g
      generalize dotB r x = y at q ⊢
      generalize bT x = X at q ⊢
      generalize bT r = X1 at q ⊢
      generalize V.map bT = X2
      simp [ev_b, evB1, evS1, ev_var, ev_pk, ev_cst, ev_gv, ev_gf, ev_bin, ev_neg, ev_not, ev_and, ev_or, ev_cmp, ev_isN, ev_isNN, ev_chain, ev_ite, ev_call, ev_callv, ev_bi, ev_isi, ev_mt, ev_idx, ev_sl, ev_rev, ev_tup, ev_lst, ev_comp, ev_comp2, evIt_seq, evIt_rng1, evIt_rng2, evIt_zip, evIt_enum, evL, evO, evC, evCo, bd_some, bs_some, rt_def, lf_some, nx0_some, bindT_nm, bindT_tp, bindTs_nil, bindTs_cons, wipeE, startE, setNx, setSl, slot, modV, seqV_lst, seqV_tup, zipV_ll, zipV_tt, zipV_lt, zipV_tl, enumV_lst, enumV_tup, biV_lenL, biV_lenT, biV_sumL, biV_sumT, biV_allL, biV_anyL, biV_listL, biV_listT, biV_tupL, biV_tupT, biV_intI, binV_addI, binV_subI, binV_addL, binV_addT, binV_mod, cmpV_eq, cmpV_ne, cmpV_lt, cmpV_le, cmpV_gt, cmpV_ge, cmpV_innL, cmpV_innT, cmpV_ninL, cmpV_ninT, isiV, slV, revV, idxV_l, idxV_t, endF, q]
  have hR : seqV s.R = some (s.rows.map bT) := rfl
  have hX2 : blsOf (s.rows.flatMap fun r => V.map fun x => PV.bl (dotB r x)) = some (s.rows.flatMap fun r => V.map fun x => dotB r x) := by
    have e1 : (s.rows.flatMap fun r => V.map fun x => PV.bl (dotB r x)) = (s.rows.flatMap fun r => V.map fun x => dotB r x).map fun b => .bl b := by
      rw [List.map_flatMap]
      congr 1
      funext r
      rw [List.map_map]; rfl
    rw [e1, blsOf_map, List.map_id']
  have hL : (s.rows.flatMap fun r => V.map fun x => PV.bl (dotB r x)).length ≤ LIM := by
    have : (s.rows.flatMap fun r => V.map fun x => PV.bl (dotB r x)).length = s.rows.length * V.length := by
      rw [List.length_flatMap]
      have : (s.rows.map fun r => (V.map fun x => PV.bl (dotB r x)).length) = s.rows.map fun _ => V.length := by
        refine List.map_congr_left fun r _ => List.length_map _
      rw [this, List.map_const', List.sum_replicate_nat]
    rw [this]
    refine Nat.le_trans (Nat.mul_le_mul hm8 hV8) ?_
    decide
  have h6 := r_reducedI (d + 2) V s.w s.w wi hwi (.tup (V.map bT)) (.inl rfl) g (by omega) (Nat.le_refl _) (by omega) hw
  obtain ⟨ci, hci⟩ : ∃ ci : Int, ci = (redB V s.w).2.2.length := ⟨_, rfl⟩
  have hC : biV .len (.lst (iC (redB V s.w).2.2)) = some (.int ci) := by
    rw [hci]
    show some (PV.int ((iC (redB V s.w).2.2).length : Int)) = _
    unfold iC
    rw [List.length_map]
  have hz := eqVI ci (wi - rk)
  have e2 : (ci == (wi - rk)) = decide ((redB V s.w).2.2.length = V.length) := by
    rw [← hl, hci]
    by_cases e : (redB V s.w).2.2.length = V.length
    · rw [e, decide_eq_true rfl]; exact beq_iff_eq.mpr rfl
    · rw [decide_eq_false e]; exact beq_eq_false_iff_ne.mpr fun h => e (by omega)
  rw [e2] at hz
  rw [← any_flat s.rows V fun r x => dotB r x]
  exact aq_good _ wi rk g SP (V.map bT) _ _ s.R _ _ _ _ _ _ ci h1 h2 i0 i1 h3 h4 (blsOf_map _ fun x => isBits x wi) hY hR h5 hL hX2 h6 hC hz
end NK01
end

section
set_option Elab.async false
set_option linter.all false
set_option maxRecDepth 100000
set_option maxHeartbeats 2000000
namespace NK01
open PySem Z
def cg (a b : Int) : G := [.lst [.int a, .int b]]
theorem cg0 (a b : Int) : idxV (cg a b) (.cell 0) (.int 0) = some (.int a) := rfl
theorem cg1 (a b : Int) : idxV (cg a b) (.cell 0) (.int 1) = some (.int b) := rfl
theorem md0 (σ : Z.Env) (a b a' : Int) (h : σ[0]? = some (.val (.cell 0))) : modV σ (cg a b) 0 (putV (.int 0) (.int a')) = some (.nx σ, cg a' b) := by
  unfold modV
  rw [h]; rfl
theorem md1 (σ : Z.Env) (a b b' : Int) (h : σ[0]? = some (.val (.cell 0))) : modV σ (cg a b) 0 (putV (.int 1) (.int b')) = some (.nx σ, cg a b') := by
  unfold modV
  rw [h]; rfl
def rollS (c1 c2 c3 c4 c5 c6 : Int) : List S := [.ite (.cmp .gt (.idx (.var 0) (.cst (.int 0))) (.cst (.int 0))) [.set false 2 (.bin .mod (.bi .int (.idx (.var 0) (.cst (.int 0)))) (.var 1)), .sub 0 (.cst (.int 0)) (.bin .fdiv (.idx (.var 0) (.cst (.int 0))) (.var 1)), .ret (.var 2)] [], .sub 0 (.cst (.int 1)) (.bin .mod (.bi .int (.bin .add (.bin .mul (.idx (.var 0) (.cst (.int 1))) (.cst (.int c1))) (.cst (.int c2)))) (.cst (.int c3))), .set false 3 (.bin .mod (.bi .int (.bin .mul (.idx (.var 0) (.cst (.int 1))) (.bin .add (.idx (.var 0) (.cst (.int 1))) (.cst (.int c4))))) (.cst (.int c5))), .ret (.bin .mod (.bi .int (.bin .fdiv (.var 3) (.cst (.int c6)))) (.var 1))]
theorem roll_body : f_law_roll.body = rollS 30403 8609 2147483543 271 2147483587 859 := rfl
theorem fmod_in {x m : Int} (h : 0 < m) : 0 ≤ x.fmod m ∧ x.fmod m < m := ⟨Int.fmod_nonneg_of_pos x h, Int.fmod_lt_of_pos x h⟩
theorem roll_1 (cf : CF) (c1 c2 c3 c4 c5 c6 : Int) (m a b a' : Int) (ha : decide (0 < a) = true) (hm : ¬ m = 0) (h2 : binV .fdiv (.int a) (.int m) = some (.int a')) :
    endF (cg a b).length ((ev tab cf 60).b (startE 4 [.cell 0, .int m]) (cg a b) (rollS c1 c2 c3 c4 c5 c6)) = some (.v (.int (a.fmod m)), cg a' b) := by
  have hl : (cg a b).length = 1 := rfl
  rw [hl]
  have hl : (cg a' b).length = 1 := rfl
  have ht : (cg a' b).take 1 = cg a' b := rfl
  have k1 := cg0 a b
  have k2 := md0 [.val (.cell 0), .val (.int m), .val (.int (a.fmod m)), .no] a b a' rfl
  generalize cg a b = G1 at k1 k2 ⊢
  generalize cg a' b = G2 at k2 hl ht ⊢
  simp at ha
  simp [ev_b, evB1, evS1, ev_var, ev_pk, ev_cst, ev_gv, ev_gf, ev_bin, ev_neg, ev_not, ev_and, ev_or, ev_cmp, ev_isN, ev_isNN, ev_chain, ev_ite, ev_call, ev_callv, ev_bi, ev_isi, ev_mt, ev_idx, ev_sl, ev_rev, ev_tup, ev_lst, ev_comp, ev_comp2, evIt_seq, evIt_rng1, evIt_rng2, evIt_zip, evIt_enum, evL, evO, evC, evCo, bd_some, bs_some, rt_def, lf_some, nx0_some, bindT_nm, bindT_tp, bindTs_nil, bindTs_cons, wipeE, startE, setNx, setSl, slot, seqV_lst, seqV_tup, zipV_ll, zipV_tt, zipV_lt, zipV_tl, enumV_lst, enumV_tup, biV_lenL, biV_lenT, biV_sumL, biV_sumT, biV_allL, biV_anyL, biV_listL, biV_listT, biV_tupL, biV_tupT, biV_intI, binV_addI, binV_subI, binV_addL, binV_addT, binV_mod, cmpV_eq, cmpV_ne, cmpV_lt, cmpV_le, cmpV_gt, cmpV_ge, cmpV_innL, cmpV_innT, cmpV_ninL, cmpV_ninT, isiV, slV, revV, idxV_l, idxV_t, endF, rollS, k1, k2, h2, ha, hm, hl, ht, flatP]
theorem roll_2 (cf : CF) (c1 c2 c3 c4 c5 c6 : Int) (m a b x1 b' x3 x4 : Int) (ha : ¬ 0 < a) (hm : ¬ m = 0) (h1 : binV .mul (.int b) (.int c1) = some (.int x1)) (h2 : binV .mod (.int (x1 + c2)) (.int c3) = some (.int b')) (h3 : binV .mul (.int b') (.int (b' + c4)) = some (.int x3)) (hc5 : ¬ c5 = 0) (h4 : binV .fdiv (.int (x3.fmod c5)) (.int c6) = some (.int x4)) (hc3 : ¬ c3 = 0) :
    endF (cg a b).length ((ev tab cf 60).b (startE 4 [.cell 0, .int m]) (cg a b) (rollS c1 c2 c3 c4 c5 c6)) = some (.v (.int (x4.fmod m)), cg a b') := by
  have hb : b' = (x1 + c2).fmod c3 := by
    rw [binV_mod, if_pos hc3] at h2
    cases h2; rfl
  subst hb
  clear h2
  have hl : (cg a b).length = 1 := rfl
  rw [hl]
  have hl : (cg a ((x1 + c2).fmod c3)).length = 1 := rfl
  have ht : (cg a ((x1 + c2).fmod c3)).take 1 = cg a ((x1 + c2).fmod c3) := rfl
  have k0 := cg0 a b
  have k1 := cg1 a b
  have k2 := md1 [.val (.cell 0), .val (.int m), .no, .no] a b ((x1 + c2).fmod c3) rfl
  have k3 := cg1 a ((x1 + c2).fmod c3)
  generalize cg a b = G1 at k0 k1 k2 ⊢
  generalize cg a ((x1 + c2).fmod c3) = G2 at k2 k3 hl ht ⊢
  simp [ev_b, evB1, evS1, ev_var, ev_pk, ev_cst, ev_gv, ev_gf, ev_bin, ev_neg, ev_not, ev_and, ev_or, ev_cmp, ev_isN, ev_isNN, ev_chain, ev_ite, ev_call, ev_callv, ev_bi, ev_isi, ev_mt, ev_idx, ev_sl, ev_rev, ev_tup, ev_lst, ev_comp, ev_comp2, evIt_seq, evIt_rng1, evIt_rng2, evIt_zip, evIt_enum, evL, evO, evC, evCo, bd_some, bs_some, rt_def, lf_some, nx0_some, bindT_nm, bindT_tp, bindTs_nil, bindTs_cons, wipeE, startE, setNx, setSl, slot, seqV_lst, seqV_tup, zipV_ll, zipV_tt, zipV_lt, zipV_tl, enumV_lst, enumV_tup, biV_lenL, biV_lenT, biV_sumL, biV_sumT, biV_allL, biV_anyL, biV_listL, biV_listT, biV_tupL, biV_tupT, biV_intI, binV_addI, binV_subI, binV_addL, binV_addT, binV_mod, cmpV_eq, cmpV_ne, cmpV_lt, cmpV_le, cmpV_gt, cmpV_ge, cmpV_innL, cmpV_innT, cmpV_ninL, cmpV_ninT, isiV, slV, revV, idxV_l, idxV_t, endF, rollS, k0, k1, k2, k3, h1, h3, h4, ha, hm, hc3, hc5, hl, ht, flatP]
theorem mulI {i j : Int} (h : i.natAbs < P64 ∨ j.natAbs < P64) : binV .mul (.int i) (.int j) = some (.int (i * j)) := by
  have e : binV .mul (.int i) (.int j) = if i.natAbs < P64 || j.natAbs < P64 then some (.int (i * j)) else none := rfl
  rw [e, if_pos]
  rcases h with h | h
  · rw [decide_eq_true h]; rfl
  · rw [decide_eq_true h, Bool.or_true]
theorem fdivI {i j : Int} (h0 : j ≠ 0) (h : j.natAbs < 1073741824) : binV .fdiv (.int i) (.int j) = some (.int (i.fdiv j)) := by
  have e : binV .fdiv (.int i) (.int j) = if decide (j ≠ 0) && decide (j.natAbs < 1073741824) then some (.int (i.fdiv j)) else none := rfl
  rw [e, if_pos]
  rw [decide_eq_true h0, decide_eq_true h]; rfl
theorem small_nat {x c : Int} (h0 : 0 ≤ x) (h1 : x < c) (hc : c ≤ 9223372036854775808) : x.natAbs < P64 := by
  unfold P64; omega
theorem roll_any (cf : CF) (c1 c2 c3 c4 c5 c6 : Int) (h1 : c1.natAbs < P64) (h3 : 0 < c3) (h3' : c3 ≤ 9223372036854775808) (h5 : 0 < c5) (h6 : c6 ≠ 0) (h6' : c6.natAbs < 1073741824) (m a b : Int) (hm : 0 < m) (hm' : m < 1073741824) :
    ∃ a' b' r, endF (cg a b).length ((ev tab cf 60).b (startE 4 [.cell 0, .int m]) (cg a b) (rollS c1 c2 c3 c4 c5 c6)) = some (.v (.int r), cg a' b') ∧ 0 ≤ r ∧ r < m := by
  by_cases ha : 0 < a
  · exact ⟨_, _, _, roll_1 cf c1 c2 c3 c4 c5 c6 m a b _ (decide_eq_true ha) (by omega) (fdivI (by omega) (by omega)), fmod_in hm⟩
  · have hc3 : c3 ≠ 0 := by omega
    refine ⟨_, _, _, roll_2 cf c1 c2 c3 c4 c5 c6 m a b (b * c1) ((b * c1 + c2).fmod c3) _ _ ha (by omega) (mulI (.inr h1)) ?_ (mulI (.inl ?_)) (by omega) (fdivI h6 h6') (by omega), fmod_in hm⟩
    · rw [binV_mod, if_pos hc3]
    · have := fmod_in (x := b * c1 + c2) h3
      exact small_nat this.1 this.2 h3'
theorem r_roll (d : Nat) (a b m : Int) (hm : 0 < m) (hm' : m < 1073741824) : ∃ a' b' r, runF tab fns (d + 1) 20 [.cell 0, .int m] (cg a b) = some (.v (.int r), cg a' b') ∧ 0 ≤ r ∧ r < m := by
  rw [runF_at (f := f_law_roll) rfl rfl, roll_body]
  exact roll_any _ 30403 8609 2147483543 271 2147483587 859 (by decide) (by decide) (by decide) (by decide) (by decide) (by decide) m a b hm hm'
theorem r_rollN (d : Nat) (a b : Int) (m : Nat) (mi : Int) (hmi : mi = m) (hm : 0 < m) (hm' : m < 1073741824) : ∃ a' b' r, runF tab fns (d + 1) 20 [.cell 0, .int mi] (cg a b) = some (.v (.int (r : Nat)), cg a' b') ∧ r < m := by
  obtain ⟨a', b', r, h, h0, h1⟩ := r_roll d a b mi (by omega) (by omega)
  obtain ⟨k, rfl⟩ := Int.eq_ofNat_of_zero_le h0
  exact ⟨a', b', k, h, by omega⟩
def someS : List S := [.ret (.idx (.var 1) (.call 20 [.var 0, .bi .len (.var 1)]))]
theorem some_1 (cf : CF) (g g' : G) (v x : PV) (m r : Int) (h0 : biV .len v = some (.int m)) (h1 : cf 20 [.cell 0, .int m] g = some (.v (.int r), g')) (h2 : idxV g' v (.int r) = some x) (hl : g'.length = g.length) : endF g.length ((ev tab cf 60).b (startE 2 [.cell 0, v]) g someS) = some (.v x, g') := by
  have hl2 : ∀ n, (ev tab cf (n + 2)).e [.val (.cell 0), .val v] g (.bi .len (.var 1)) = some (.v (.int m), g) := fun n => by
    have e1 : (ev tab cf (n + 1)).e [.val (.cell 0), .val v] g (.var 1) = some (.v v, g) := rfl
    rw [ev_bi, e1, bd_some, h0]; rfl
  have ht : g'.take g.length = g' := by rw [← hl, List.take_length]
  unfold someS
  generalize hC : E.bi .len (.var 1) = cc at hl2 ⊢
  simp [ev_b, evB1, evS1, ev_var, ev_pk, ev_cst, ev_gv, ev_gf, ev_bin, ev_neg, ev_not, ev_and, ev_or, ev_cmp, ev_isN, ev_isNN, ev_chain, ev_ite, ev_call, ev_callv, ev_bi, ev_isi, ev_mt, ev_idx, ev_sl, ev_rev, ev_tup, ev_lst, ev_comp, ev_comp2, evIt_seq, evIt_rng1, evIt_rng2, evIt_zip, evIt_enum, evL, evO, evC, evCo, bd_some, bs_some, rt_def, lf_some, nx0_some, bindT_nm, bindT_tp, bindTs_nil, bindTs_cons, wipeE, startE, setNx, setSl, slot, seqV_lst, seqV_tup, zipV_ll, zipV_tt, zipV_lt, zipV_tl, enumV_lst, enumV_tup, biV_lenL, biV_lenT, biV_sumL, biV_sumT, biV_allL, biV_anyL, biV_listL, biV_listT, biV_tupL, biV_tupT, biV_intI, binV_addI, binV_subI, binV_addL, binV_addT, binV_mod, cmpV_eq, cmpV_ne, cmpV_lt, cmpV_le, cmpV_gt, cmpV_ge, cmpV_innL, cmpV_innT, cmpV_ninL, cmpV_ninT, isiV, slV, revV, idxV_l, idxV_t, endF, hl2, h1, h2, hl, ht]
theorem atI_nat {l : List PV} {i : Nat} {x : PV} (h : l[i]? = some x) : atI l (i : Int) = some x := by
  have hi : i < l.length := (List.getElem?_eq_some_iff.mp h).1
  unfold atI L2.atI L2.ixN
  simp [hi]
  exact (List.getElem?_eq_some_iff.mp h).2
theorem r_someM {α : Type} (d : Nat) (a b : Int) (l : List α) (f : α → PV) (hl : 0 < l.length) (hl' : l.length < 1073741824) : ∃ a' b' x, runF tab fns (d + 2) 21 [.cell 0, .lst (l.map f)] (cg a b) = some (.v (f x), cg a' b') ∧ x ∈ l := by
  obtain ⟨mi, hmi⟩ : ∃ mi : Int, mi = l.length := ⟨_, rfl⟩
  obtain ⟨a', b', r, h, hr⟩ := r_rollN d a b l.length mi hmi hl hl'
  obtain ⟨x, hx⟩ : ∃ x, l[r]? = some x := ⟨_, List.getElem?_eq_getElem hr⟩
  refine ⟨a', b', x, ?_, List.mem_of_getElem? hx⟩
  rw [runF_at (f := f_law_some) rfl rfl]
  have h0 : biV .len (.lst (l.map f)) = some (.int mi) := by
    show some (PV.int ((l.map f).length : Int)) = _
    rw [List.length_map, hmi]
  have h2 : idxV (cg a' b') (.lst (l.map f)) (.int (r : Int)) = some (f x) := by
    rw [idxV_l]
    exact atI_nat (by rw [List.getElem?_map, hx]; rfl)
  exact some_1 _ (cg a b) (cg a' b') _ _ mi r h0 h h2 rfl
def cupS (t e c1 c2 c3 c4 c5 : Int) : List S := [.set false 1 (.bi .abs (.idx (.bin .add (.bi .list (.var 0)) (.lst [.cst (.int 0)])) (.cst (.int 0)))), .ret (.lst [.ite (.cmp .ge (.var 1) (.bin .pow (.cst (.int t)) (.cst (.int e)))) (.bin .fdiv (.var 1) (.cst (.int c1))) (.cst (.int 0)), .bin .add (.bin .mod (.bi .int (.bin .add (.bin .mul (.var 1) (.cst (.int c2))) (.cst (.int c3)))) (.cst (.int c4))) (.cst (.int c5))])]
theorem cup_body : f_law_cup.body = cupS 10 18 101 347 4903 2024129311 197 := rfl
theorem cup_1 (cf : CF) (t e c1 c2 c3 c4 c5 p c q x : Int) (ns : List Int) (l : List PV) (g : G) (L R : List PV) (h0 : biV .list (.scr ns) = some (.lst L)) (h1 : binV .add (.lst L) (.lst [.int 0]) = some (.lst (.int x :: R))) (hc : biV .abs (.int x) = some (.int c)) (hp : binV .pow (.int t) (.int e) = some (.int p)) (hd : binV .fdiv (.int c) (.int c1) = some (.int q)) (hm : binV .mul (.int c) (.int c2) = some (.int y)) (h4 : ¬ c4 = 0) :
    ∃ a b, endF g.length ((ev tab cf 60).b (startE 2 [.scr ns]) g (cupS t e c1 c2 c3 c4 c5)) = some (.v (.lst [.int a, .int b]), g) := by
  have e1 : ∀ n, (ev tab cf (n + 3)).e [.val (.scr ns), .no] g (.bin .add (.bi .list (.var 0)) (.lst [.cst (.int 0)])) = some (.v (.lst (.int x :: R)), g) := fun n => by
    rw [ev_bin]
    have e2 : (ev tab cf (n + 2)).e [.val (.scr ns), .no] g (.bi .list (.var 0)) = some (.v (.lst L), g) := by
      have e3 : (ev tab cf (n + 1)).e [.val (.scr ns), .no] g (.var 0) = some (.v (.scr ns), g) := rfl
      rw [ev_bi, e3, bd_some, h0]; rfl
    have e3 : (ev tab cf (n + 2)).e [.val (.scr ns), .no] g (.lst [.cst (.int 0)]) = some (.v (.lst [.int 0]), g) := rfl
    rw [e2, bd_some, e3, bd_some, h1]; rfl
  unfold cupS
  generalize hC : E.bin .add (.bi .list (.var 0)) (.lst [.cst (.int 0)]) = cc at e1 ⊢
  by_cases hk : p ≤ c
  · refine ⟨q, (y + c3).fmod c4 + c5, ?_⟩
    simp [ev_b, evB1, evS1, ev_var, ev_pk, ev_cst, ev_gv, ev_gf, ev_bin, ev_neg, ev_not, ev_and, ev_or, ev_cmp, ev_isN, ev_isNN, ev_chain, ev_ite, ev_call, ev_callv, ev_bi, ev_isi, ev_mt, ev_idx, ev_sl, ev_rev, ev_tup, ev_lst, ev_comp, ev_comp2, evIt_seq, evIt_rng1, evIt_rng2, evIt_zip, evIt_enum, evL, evO, evC, evCo, bd_some, bs_some, rt_def, lf_some, nx0_some, bindT_nm, bindT_tp, bindTs_nil, bindTs_cons, wipeE, startE, setNx, setSl, slot, modV, seqV_lst, seqV_tup, zipV_ll, zipV_tt, zipV_lt, zipV_tl, enumV_lst, enumV_tup, biV_lenL, biV_lenT, biV_sumL, biV_sumT, biV_allL, biV_anyL, biV_listL, biV_listT, biV_tupL, biV_tupT, biV_intI, binV_addI, binV_subI, binV_addL, binV_addT, binV_mod, cmpV_eq, cmpV_ne, cmpV_lt, cmpV_le, cmpV_gt, cmpV_ge, cmpV_innL, cmpV_innT, cmpV_ninL, cmpV_ninT, isiV, slV, revV, idxV_l, idxV_t, endF, e1, hc, hp, hd, hm, h4, hk, atI_zero, flatP]
  · refine ⟨0, (y + c3).fmod c4 + c5, ?_⟩
    simp [ev_b, evB1, evS1, ev_var, ev_pk, ev_cst, ev_gv, ev_gf, ev_bin, ev_neg, ev_not, ev_and, ev_or, ev_cmp, ev_isN, ev_isNN, ev_chain, ev_ite, ev_call, ev_callv, ev_bi, ev_isi, ev_mt, ev_idx, ev_sl, ev_rev, ev_tup, ev_lst, ev_comp, ev_comp2, evIt_seq, evIt_rng1, evIt_rng2, evIt_zip, evIt_enum, evL, evO, evC, evCo, bd_some, bs_some, rt_def, lf_some, nx0_some, bindT_nm, bindT_tp, bindTs_nil, bindTs_cons, wipeE, startE, setNx, setSl, slot, modV, seqV_lst, seqV_tup, zipV_ll, zipV_tt, zipV_lt, zipV_tl, enumV_lst, enumV_tup, biV_lenL, biV_lenT, biV_sumL, biV_sumT, biV_allL, biV_anyL, biV_listL, biV_listT, biV_tupL, biV_tupT, biV_intI, binV_addI, binV_subI, binV_addL, binV_addT, binV_mod, cmpV_eq, cmpV_ne, cmpV_lt, cmpV_le, cmpV_gt, cmpV_ge, cmpV_innL, cmpV_innT, cmpV_ninL, cmpV_ninT, isiV, slV, revV, idxV_l, idxV_t, endF, e1, hc, hp, hd, hm, h4, hk, atI_zero, flatP]
theorem cup_head (ns : List Int) : ∃ x R, ns.map PV.int ++ [.int 0] = .int x :: R := by
  cases ns with
  | nil => exact ⟨0, [], rfl⟩
  | cons n ns => exact ⟨n, _, rfl⟩
theorem r_cup (d : Nat) (ns : List Int) (hn : ns.length ≤ 63) (g : G) : ∃ a b, runF tab fns (d + 1) 19 [.scr ns] g = some (.v (.lst [.int a, .int b]), g) := by
  obtain ⟨x, R, h⟩ := cup_head ns
  have h1 : binV .add (.lst (ns.map .int)) (.lst [.int 0]) = some (.lst (.int x :: R)) := by
    rw [binV_addL, if_pos, h]
    rw [List.length_map]
    have : 64 ≤ LIM := by decide
    simp only [List.length_cons, List.length_nil]
    omega
  rw [runF_at (f := f_law_cup) rfl rfl, cup_body]
  have hp : binV .pow (.int 10) (.int 18) = some (.int 1000000000000000000) := by
    simp [binV, P64]
  exact cup_1 _ 10 18 101 347 4903 2024129311 197 _ _ _ x ns [] g _ R rfl h1 rfl hp (fdivI (by decide) (by decide)) (mulI (.inr (by decide))) (by decide)
end NK01
end

section
set_option Elab.async false
set_option linter.all false
set_option maxRecDepth 100000
set_option maxHeartbeats 2000000
namespace NK01
open PySem Z
/-- a comprehension whose turns change the state: a word I on states stays, a word Q holds of every value -/
theorem compGo_st {e : EV} {ρ : Z.Env} {elt : E} {t : T} (I : G → Prop) (Q : PV → Prop) : ∀ (l : List PV) (g : G), I g → (∀ x ∈ l, ∀ g, I g → ∃ ρ', bindT t x ρ = some ρ' ∧ ∃ v g', e ρ' g elt = some (.v v, g') ∧ I g' ∧ Q v) → ∃ vs g', compGo e ρ elt t none g l = some (.v vs, g') ∧ I g' ∧ vs.length = l.length ∧ ∀ v ∈ vs, Q v
  | [], g, h, _ => ⟨[], g, rfl, h, rfl, fun v hv => by cases hv⟩
  | x :: l, g, h, st => by
    obtain ⟨ρ', h1, v, g1, h2, h3, h4⟩ := st x List.mem_cons_self g h
    obtain ⟨vs, g', q1, q2, q3, q4⟩ := compGo_st I Q l g1 h3 fun y hy => st y (List.mem_cons_of_mem _ hy)
    refine ⟨v :: vs, g', ?_, q2, by rw [List.length_cons, List.length_cons, q3], ?_⟩
    · rw [compGo, h1]
      simp only [evCo, rt_def, bd_some, h2, q1]
    · intro y hy
      cases hy with
      | head => exact h4
      | tail _ hy => exact q4 y hy
def CG (g : G) : Prop := ∃ a b, g = cg a b
theorem bits_list : ∀ {l : List PV}, (∀ v ∈ l, ∃ b, v = bI b) → ∃ r : Row, l = rw r
  | [], _ => ⟨[], rfl⟩
  | x :: l, h => by
    obtain ⟨b, rfl⟩ := h x List.mem_cons_self
    obtain ⟨r, rfl⟩ := bits_list fun v hv => h v (List.mem_cons_of_mem _ hv)
    exact ⟨b :: r, rfl⟩
theorem r_bit (d : Nat) (g : G) (h : CG g) : ∃ b g', runF tab fns (d + 1) 20 [.cell 0, .int 2] g = some (.v (bI b), g') ∧ CG g' := by
  obtain ⟨a, b, rfl⟩ := h
  obtain ⟨a', b', r, h, hr⟩ := r_rollN d a b 2 2 rfl (by decide) (by decide)
  rcases (by omega : r = 0 ∨ r = 1) with e | e
  · subst e; exact ⟨false, _, h, _, _, rfl⟩
  · subst e; exact ⟨true, _, h, _, _, rfl⟩
section
variable (cf : CF) (wi : Int) (X2 X3 : List PV) (s4 : Sl)
def sysE (wi : Int) (X2 X3 : List PV) (s4 : Sl) : Z.Env := [.val (.cell 0), .val (.int wi), .own (.lst X2), .own (.lst X3), s4, .no]
def sysA : List S := [.app 2 (.call 25 [.lst [.idx (.pk 2) (.cst (.int 0)), .idx (.pk 2) (.neg (.cst (.int 1)))], .var 1]), .app 3 (.bin .mod (.bi .int (.bin .add (.bin .add (.idx (.pk 3) (.cst (.int 0))) (.idx (.pk 3) (.neg (.cst (.int 1))))) (.call 21 [.var 0, .lst [.cst (.int 0), .cst (.int 0), .cst (.int 1)]]))) (.cst (.int 2)))]
def sysBB : List S := [.app 2 (.bi .tuple (.comp (.call 20 [.var 0, .cst (.int 2)]) (.nm 5) (.rng1 (.var 1)) .none [5])), .app 3 (.call 20 [.var 0, .cst (.int 2)])]
def sysC : E := .and (.cmp .gt (.bi .len (.pk 2)) (.cst (.int 1))) (.cmp .eq (.call 20 [.var 0, .cst (.int 3)]) (.cst (.int 0)))
def sysS : List S := [.par true [(false, 1, .call 20 [.var 0, .cst (.int 8)]), (true, 2, .lst []), (true, 3, .lst [])], .for (.nm 4) (.rng1 (.call 20 [.var 0, .cst (.int 7)])) [.ite sysC sysA sysBB], .ret (.tup [.var 1, .bi .tuple (.pk 2), .bi .tuple (.pk 3)])]
theorem sys_body : f_law_system.body = sysS := rfl
theorem app_ok {l : List PV} {v : PV} (h : l.length < LIM) : appV v (.lst l) = some (.lst (l ++ [v])) := by
  have e : appV v (.lst l) = if l.length < LIM then some (.lst (l ++ [v])) else none := rfl
  rw [e, if_pos h]
theorem sys_a (g g1 : G) (p q z : PV) (u v c : Int) (h0 : atI X2 0 = some p) (h1 : atI X2 (-1) = some q) (h2 : atI X3 0 = some (.int u)) (h3 : atI X3 (-1) = some (.int v)) (h25 : cf 25 [.lst [p, q], .int wi] g = some (.v z, g)) (h21 : cf 21 [.cell 0, .lst [.int 0, .int 0, .int 1]] g = some (.v (.int c), g1)) (hl : X2.length < LIM) (hl' : X3.length < LIM) :
    (ev tab cf 58).b (sysE wi X2 X3 s4) g sysA = some (.nx (sysE wi (X2 ++ [z]) (X3 ++ [.int ((u + v + c).fmod 2)]) s4), g1) := by
  have a1 := app_ok (v := z) hl
  have a2 := app_ok (v := .int ((u + v + c).fmod 2)) hl'
  simp [ev_b, evB1, evS1, ev_var, ev_pk, ev_cst, ev_gv, ev_gf, ev_bin, ev_neg, ev_not, ev_and, ev_or, ev_cmp, ev_isN, ev_isNN, ev_chain, ev_ite, ev_call, ev_callv, ev_bi, ev_isi, ev_mt, ev_idx, ev_sl, ev_rev, ev_tup, ev_lst, ev_comp, ev_comp2, evIt_seq, evIt_rng1, evIt_rng2, evIt_zip, evIt_enum, evL, evO, evC, evCo, bd_some, bs_some, rt_def, lf_some, nx0_some, bindT_nm, bindT_tp, bindTs_nil, bindTs_cons, wipeE, startE, setNx, setSl, slot, modV, seqV_lst, seqV_tup, zipV_ll, zipV_tt, zipV_lt, zipV_tl, enumV_lst, enumV_tup, biV_lenL, biV_lenT, biV_sumL, biV_sumT, biV_allL, biV_anyL, biV_listL, biV_listT, biV_tupL, biV_tupT, biV_intI, binV_addI, binV_subI, binV_addL, binV_addT, binV_mod, cmpV_eq, cmpV_ne, cmpV_lt, cmpV_le, cmpV_gt, cmpV_ge, cmpV_innL, cmpV_innT, cmpV_ninL, cmpV_ninT, isiV, slV, revV, idxV_l, idxV_t, endF, sysA, sysE, h0, h1, h2, h3, h25, h21, a1, a2]
theorem sys_b (g g1 g2 : G) (Z0 : List PV) (b : PV) (L : List PV) (hc : compGo (ev tab cf 55).e (sysE wi X2 X3 s4) (.call 20 [.var 0, .cst (.int 2)]) (.nm 5) none g L = some (.v Z0, g1)) (hn : rng1V (.int wi) = some L) (h2 : cf 20 [.cell 0, .int 2] g1 = some (.v b, g2)) (hl : X2.length < LIM) (hl' : X3.length < LIM) :
    (ev tab cf 58).b (sysE wi X2 X3 s4) g sysBB = some (.nx (sysE wi (X2 ++ [.tup Z0]) (X3 ++ [b]) s4), g2) := by
  have a1 := app_ok (v := .tup Z0) hl
  have a2 := app_ok (v := b) hl'
  unfold sysE at hc
  simp [ev_b, evB1, evS1, ev_var, ev_pk, ev_cst, ev_gv, ev_gf, ev_bin, ev_neg, ev_not, ev_and, ev_or, ev_cmp, ev_isN, ev_isNN, ev_chain, ev_ite, ev_call, ev_callv, ev_bi, ev_isi, ev_mt, ev_idx, ev_sl, ev_rev, ev_tup, ev_lst, ev_comp, ev_comp2, evIt_seq, evIt_rng1, evIt_rng2, evIt_zip, evIt_enum, evL, evO, evC, evCo, bd_some, bs_some, rt_def, lf_some, nx0_some, bindT_nm, bindT_tp, bindTs_nil, bindTs_cons, wipeE, startE, setNx, setSl, slot, modV, seqV_lst, seqV_tup, zipV_ll, zipV_tt, zipV_lt, zipV_tl, enumV_lst, enumV_tup, biV_lenL, biV_lenT, biV_sumL, biV_sumT, biV_allL, biV_anyL, biV_listL, biV_listT, biV_tupL, biV_tupT, biV_intI, binV_addI, binV_subI, binV_addL, binV_addT, binV_mod, cmpV_eq, cmpV_ne, cmpV_lt, cmpV_le, cmpV_gt, cmpV_ge, cmpV_innL, cmpV_innT, cmpV_ninL, cmpV_ninT, isiV, slV, revV, idxV_l, idxV_t, endF, sysBB, sysE, hc, hn, h2, a1, a2]
theorem sys_c1 (g : G) (h : ¬ (1 : Int) < X2.length) : (ev tab cf 58).e (sysE wi X2 X3 s4) g sysC = some (.v (.bl false), g) := by
  simp [ev_b, evB1, evS1, ev_var, ev_pk, ev_cst, ev_gv, ev_gf, ev_bin, ev_neg, ev_not, ev_and, ev_or, ev_cmp, ev_isN, ev_isNN, ev_chain, ev_ite, ev_call, ev_callv, ev_bi, ev_isi, ev_mt, ev_idx, ev_sl, ev_rev, ev_tup, ev_lst, ev_comp, ev_comp2, evIt_seq, evIt_rng1, evIt_rng2, evIt_zip, evIt_enum, evL, evO, evC, evCo, bd_some, bs_some, rt_def, lf_some, nx0_some, bindT_nm, bindT_tp, bindTs_nil, bindTs_cons, wipeE, startE, setNx, setSl, slot, modV, seqV_lst, seqV_tup, zipV_ll, zipV_tt, zipV_lt, zipV_tl, enumV_lst, enumV_tup, biV_lenL, biV_lenT, biV_sumL, biV_sumT, biV_allL, biV_anyL, biV_listL, biV_listT, biV_tupL, biV_tupT, biV_intI, binV_addI, binV_subI, binV_addL, binV_addT, binV_mod, cmpV_eq, cmpV_ne, cmpV_lt, cmpV_le, cmpV_gt, cmpV_ge, cmpV_innL, cmpV_innT, cmpV_ninL, cmpV_ninT, isiV, slV, revV, idxV_l, idxV_t, endF, sysC, sysE, h]
theorem sys_c2 (g g1 : G) (r : Int) (h : (1 : Int) < X2.length) (h2 : cf 20 [.cell 0, .int 3] g = some (.v (.int r), g1)) : (ev tab cf 58).e (sysE wi X2 X3 s4) g sysC = some (.v (.bl (r == 0)), g1) := by
  have := eqVI r 0
  simp [ev_b, evB1, evS1, ev_var, ev_pk, ev_cst, ev_gv, ev_gf, ev_bin, ev_neg, ev_not, ev_and, ev_or, ev_cmp, ev_isN, ev_isNN, ev_chain, ev_ite, ev_call, ev_callv, ev_bi, ev_isi, ev_mt, ev_idx, ev_sl, ev_rev, ev_tup, ev_lst, ev_comp, ev_comp2, evIt_seq, evIt_rng1, evIt_rng2, evIt_zip, evIt_enum, evL, evO, evC, evCo, bd_some, bs_some, rt_def, lf_some, nx0_some, bindT_nm, bindT_tp, bindTs_nil, bindTs_cons, wipeE, startE, setNx, setSl, slot, modV, seqV_lst, seqV_tup, zipV_ll, zipV_tt, zipV_lt, zipV_tl, enumV_lst, enumV_tup, biV_lenL, biV_lenT, biV_sumL, biV_sumT, biV_allL, biV_anyL, biV_listL, biV_listT, biV_tupL, biV_tupT, biV_intI, binV_addI, binV_subI, binV_addL, binV_addT, binV_mod, cmpV_eq, cmpV_ne, cmpV_lt, cmpV_le, cmpV_gt, cmpV_ge, cmpV_innL, cmpV_innT, cmpV_ninL, cmpV_ninT, isiV, slV, revV, idxV_l, idxV_t, endF, sysC, sysE, h, h2, this]
theorem sys_ite (g g1 g2 : G) (k : Bool) (ρ ρ2 : Z.Env) (hc : (ev tab cf 58).e ρ g sysC = some (.v (.bl k), g1)) (hb : (ev tab cf 58).b ρ g1 (if k then sysA else sysBB) = some (.nx ρ2, g2)) : (ev tab cf 59).b ρ g [.ite sysC sysA sysBB] = some (.nx ρ2, g2) := by
  generalize sysC = c at hc ⊢
  generalize sysA = A at hb ⊢
  generalize sysBB = B at hb ⊢
  rw [ev_b]
  cases k with
  | true =>
    rw [if_pos rfl] at hb
    simp only [evB1, evS1, evC, hc, bd_some, bs_some, rt_def, if_true, hb]
  | false =>
    rw [if_neg (by decide)] at hb
    simp only [evB1, evS1, evC, hc, bd_some, bs_some, rt_def, Bool.false_eq_true, if_false, hb]
end
theorem atI_last {l : List PV} {x : PV} : atI (l ++ [x]) (-1) = some x := by
  unfold atI L2.atI L2.ixN
  have h : ¬ (0 : Int) ≤ -1 := by decide
  have h2 : (-((l ++ [x]).length : Int)) ≤ -1 := by
    rw [List.length_append, List.length_singleton]; omega
  rw [if_neg h, if_pos h2]
  have h3 : (-1 + ((l ++ [x]).length : Int)).toNat = l.length := by
    rw [List.length_append, List.length_singleton]; omega
  rw [h3]
  simp
theorem xor3 (a b c : Bool) : (b2z a + b2z b + b2z c).fmod 2 = b2z (xor (xor a b) c) := by cases a <;> cases b <;> cases c <;> rfl
structure Rs (w n : Nat) (rows : List Row) (right : Row) : Prop where
  r : ∀ r ∈ rows, r.length = w
  z : rows.length = n
  l : right.length = n
theorem sys_turnB (d : Nat) (w : Nat) (wi : Int) (hwi : wi = w) (hw : w ≤ 8) (n : Nat) (hn : n ≤ 8) (rows : List Row) (right : Row) (h : Rs w n rows right) (s4 : Sl) (g : G) (hg : CG g) : ∃ rows' right' g', Rs w (n + 1) rows' right' ∧ CG g' ∧
    (ev tab (runF tab fns (d + 2)) 58).b (sysE wi (rows.map bT) (rw right) s4) g sysBB = some (.nx (sysE wi (rows'.map bT) (rw right') s4), g') := by
  obtain ⟨vs, g1, q1, q2, q3, q4⟩ := compGo_st (e := (ev tab (runF tab fns (d + 2)) 55).e) (ρ := sysE wi (rows.map bT) (rw right) s4) (elt := .call 20 [.var 0, .cst (.int 2)]) (t := .nm 5) CG (fun v => ∃ b, v = bI b) (rng 0 w) g hg fun x hx g hg => by
    refine ⟨_, rfl, ?_⟩
    obtain ⟨b, g', h, hg'⟩ := r_bit (d + 1) g hg
    refine ⟨bI b, g', ?_, hg', b, rfl⟩
    generalize rows.map bT = X2
    generalize rw right = X3
    unfold sysE
    simp [ev_b, evB1, evS1, ev_var, ev_pk, ev_cst, ev_gv, ev_gf, ev_bin, ev_neg, ev_not, ev_and, ev_or, ev_cmp, ev_isN, ev_isNN, ev_chain, ev_ite, ev_call, ev_callv, ev_bi, ev_isi, ev_mt, ev_idx, ev_sl, ev_rev, ev_tup, ev_lst, ev_comp, ev_comp2, evIt_seq, evIt_rng1, evIt_rng2, evIt_zip, evIt_enum, evL, evO, evC, evCo, bd_some, bs_some, rt_def, lf_some, nx0_some, bindT_nm, bindT_tp, bindTs_nil, bindTs_cons, wipeE, startE, setNx, setSl, slot, modV, seqV_lst, seqV_tup, zipV_ll, zipV_tt, zipV_lt, zipV_tl, enumV_lst, enumV_tup, biV_lenL, biV_lenT, biV_sumL, biV_sumT, biV_allL, biV_anyL, biV_listL, biV_listT, biV_tupL, biV_tupT, biV_intI, binV_addI, binV_subI, binV_addL, binV_addT, binV_mod, cmpV_eq, cmpV_ne, cmpV_lt, cmpV_le, cmpV_gt, cmpV_ge, cmpV_innL, cmpV_innT, cmpV_ninL, cmpV_ninT, isiV, slV, revV, idxV_l, idxV_t, endF, h]
  obtain ⟨r, rfl⟩ := bits_list q4
  obtain ⟨b, g2, h2, hg2⟩ := r_bit (d + 1) g1 q2
  have hL : ∀ m, m ≤ 8 → m < LIM := fun m hm => Nat.lt_of_le_of_lt hm (by decide)
  have hs := small_n (n := w) (by omega)
  rw [← hwi] at hs
  have e := sys_b (runF tab fns (d + 2)) wi (rows.map bT) (rw right) s4 g g1 g2 (rw r) (bI b) (rng 0 w) q1 hs h2 (hL _ (by rw [List.length_map, h.z]; exact hn)) (hL _ (by unfold rw; rw [List.length_map, h.l]; exact hn))
  refine ⟨rows ++ [r], right ++ [b], g2, ⟨?_, ?_, ?_⟩, hg2, ?_⟩
  · intro y hy
    rcases List.mem_append.mp hy with hy | hy
    · exact h.r y hy
    · rw [List.mem_singleton.mp hy]
      unfold rw at q3
      rw [List.length_map] at q3
      rw [q3, rng0, List.length_map, List.length_range]
  · rw [List.length_append, h.z]; rfl
  · rw [List.length_append, h.l]; rfl
  · rw [e]
    unfold rw
    rw [List.map_append, List.map_append]; rfl
theorem ends_of {α : Type} : ∀ (x : α) (l : List α), ∃ L b, x :: l = L ++ [b]
  | x, [] => ⟨[], x, rfl⟩
  | x, y :: l => by
    obtain ⟨L, b, h⟩ := ends_of y l
    exact ⟨x :: L, b, by rw [h]; rfl⟩
theorem rw_ends {α : Type} (f : α → PV) : ∀ (l : List α), l ≠ [] → ∃ a b, a ∈ l ∧ b ∈ l ∧ atI (l.map f) 0 = some (f a) ∧ atI (l.map f) (-1) = some (f b)
  | [], h => absurd rfl h
  | x :: l, _ => by
    obtain ⟨L, b, h⟩ := ends_of x l
    refine ⟨x, b, List.mem_cons_self, by rw [h]; exact List.mem_append.mpr (.inr List.mem_cons_self), by rw [List.map_cons]; exact atI_zero, ?_⟩
    rw [h, List.map_append]
    exact atI_last
theorem sys_turnA (d : Nat) (w : Nat) (wi : Int) (hwi : wi = w) (hw : w ≤ 8) (n : Nat) (hn : n ≤ 8) (h1 : 1 < n) (rows : List Row) (right : Row) (h : Rs w n rows right) (s4 : Sl) (g : G) (hg : CG g) : ∃ rows' right' g', Rs w (n + 1) rows' right' ∧ CG g' ∧
    (ev tab (runF tab fns (d + 2)) 58).b (sysE wi (rows.map bT) (rw right) s4) g sysA = some (.nx (sysE wi (rows'.map bT) (rw right') s4), g') := by
  obtain ⟨p, q, hp, hq, p1, p2⟩ := rw_ends bT rows (fun e => by rw [e] at h; have := h.z; simp at this; omega)
  obtain ⟨u, v, _, _, p3, p4⟩ := rw_ends bI right (fun e => by rw [e] at h; have := h.l; simp at this; omega)
  have h25 := r_sumI (d + 1) [p, q] w wi hwi g (by omega) fun r hr => by
    have : r ∈ rows := by
      cases hr with
      | head => exact hp
      | tail _ hr => rw [List.mem_singleton.mp hr]; exact hq
    rw [h.r r this]; exact Nat.le_refl _
  obtain ⟨a0, b0, rfl⟩ := hg
  obtain ⟨a', b', c, h21, _⟩ := r_someM d a0 b0 [false, false, true] bI (by decide) (by decide)
  have hL : ∀ m, m ≤ 8 → m < LIM := fun m hm => Nat.lt_of_le_of_lt hm (by decide)
  have e := sys_a (runF tab fns (d + 2)) wi (rows.map bT) (rw right) s4 (cg a0 b0) (cg a' b') (bT p) (bT q) (bT (sumB [p, q] w)) (b2z u) (b2z v) (b2z c) p1 p2 p3 p4 h25 h21 (hL _ (by rw [List.length_map, h.z]; exact hn)) (hL _ (by unfold rw; rw [List.length_map, h.l]; exact hn))
  refine ⟨rows ++ [sumB [p, q] w], right ++ [xor (xor u v) c], cg a' b', ⟨?_, ?_, ?_⟩, ⟨_, _, rfl⟩, ?_⟩
  · intro y hy
    rcases List.mem_append.mp hy with hy | hy
    · exact h.r y hy
    · rw [List.mem_singleton.mp hy]
      unfold sumB
      rw [List.length_map, List.length_range]
  · rw [List.length_append, h.z]; rfl
  · rw [List.length_append, h.l]; rfl
  · rw [e, xor3]
    unfold rw
    rw [List.map_append, List.map_append]; rfl
theorem sys_turn (d : Nat) (w : Nat) (wi : Int) (hwi : wi = w) (hw : w ≤ 8) (n : Nat) (hn : n ≤ 8) (rows : List Row) (right : Row) (h : Rs w n rows right) (s4 : Sl) (g : G) (hg : CG g) : ∃ rows' right' g', Rs w (n + 1) rows' right' ∧ CG g' ∧
    (ev tab (runF tab fns (d + 2)) 59).b (sysE wi (rows.map bT) (rw right) s4) g [.ite sysC sysA sysBB] = some (.nx (sysE wi (rows'.map bT) (rw right') s4), g') := by
  have hle : (rows.map bT).length = n := by rw [List.length_map, h.z]
  by_cases h1 : 1 < n
  · obtain ⟨a0, b0, rfl⟩ := hg
    obtain ⟨a', b', r, h3, hr⟩ := r_rollN (d + 1) a0 b0 3 3 rfl (by decide) (by decide)
    have hc := sys_c2 (runF tab fns (d + 2)) wi (rows.map bT) (rw right) s4 (cg a0 b0) (cg a' b') r (by rw [hle]; omega) h3
    cases hk : ((r : Int) == 0) with
    | true =>
      rw [hk] at hc
      obtain ⟨rows', right', g', q1, q2, q3⟩ := sys_turnA d w wi hwi hw n hn h1 rows right h s4 (cg a' b') ⟨_, _, rfl⟩
      exact ⟨rows', right', g', q1, q2, sys_ite _ _ _ _ true _ _ hc q3⟩
    | false =>
      rw [hk] at hc
      obtain ⟨rows', right', g', q1, q2, q3⟩ := sys_turnB d w wi hwi hw n hn rows right h s4 (cg a' b') ⟨_, _, rfl⟩
      exact ⟨rows', right', g', q1, q2, sys_ite _ _ _ _ false _ _ hc q3⟩
  · have hc := sys_c1 (runF tab fns (d + 2)) wi (rows.map bT) (rw right) s4 g (by rw [hle]; omega)
    obtain ⟨rows', right', g', q1, q2, q3⟩ := sys_turnB d w wi hwi hw n hn rows right h s4 g hg
    exact ⟨rows', right', g', q1, q2, sys_ite _ _ _ _ false _ _ hc q3⟩
theorem sys_loop (d : Nat) (w : Nat) (wi : Int) (hwi : wi = w) (hw : w ≤ 8) : ∀ (l : List PV) (n : Nat), n + l.length ≤ 8 → ∀ (rows : List Row) (right : Row), Rs w n rows right → ∀ (s4 : Sl) (g : G), CG g → ∃ rows' right' s4' g', Rs w (n + l.length) rows' right' ∧ CG g' ∧
    forGo (ev tab (runF tab fns (d + 2)) 59).b (.nm 4) [.ite sysC sysA sysBB] (sysE wi (rows.map bT) (rw right) s4) g l = some (.nx (sysE wi (rows'.map bT) (rw right') s4'), g')
  | [], n, _, rows, right, h, s4, g, hg => ⟨rows, right, s4, g, h, hg, rfl⟩
  | x :: l, n, hn, rows, right, h, s4, g, hg => by
    rw [List.length_cons] at hn
    obtain ⟨rows1, right1, g1, q1, q2, q3⟩ := sys_turn d w wi hwi hw n (by omega) rows right h (.val x) g hg
    obtain ⟨rows2, right2, s2, g2, p1, p2, p3⟩ := sys_loop d w wi hwi hw l (n + 1) (by omega) rows1 right1 q1 (.val x) g1 q2
    refine ⟨rows2, right2, s2, g2, ?_, p2, ?_⟩
    · have : n + 1 + l.length = n + (x :: l).length := by rw [List.length_cons]; omega
      rw [← this]; exact p1
    · have hb : bindT (.nm 4) x (sysE wi (rows.map bT) (rw right) s4) = some (sysE wi (rows.map bT) (rw right) (.val x)) := rfl
      rw [forGo, hb]
      simp only [q3]
      exact p3
theorem sys_end (cf : CF) (wi : Int) (g g1 g2 g3 : G) (L X2 X3 : List PV) (ni : Int) (s4 : Sl) (h8 : cf 20 [.cell 0, .int 8] g = some (.v (.int wi), g1)) (h7 : cf 20 [.cell 0, .int 7] g1 = some (.v (.int ni), g2)) (hn : rng1V (.int ni) = some L) (hf : forGo (ev tab cf 59).b (.nm 4) [.ite sysC sysA sysBB] (sysE wi [] [] .no) g2 L = some (.nx (sysE wi X2 X3 s4), g3)) (hl : g3.length = g.length) :
    endF g.length ((ev tab cf 60).b (startE 6 [.cell 0]) g sysS) = some (.v (.tup [.int wi, .tup X2, .tup X3]), g3) := by
  have ht : g3.take g.length = g3 := by rw [← hl, List.take_length]
  unfold sysE at hf
  unfold sysS
  generalize [S.ite sysC sysA sysBB] = B at hf ⊢
  simp [ev_b, evB1, evS1, ev_var, ev_pk, ev_cst, ev_gv, ev_gf, ev_bin, ev_neg, ev_not, ev_and, ev_or, ev_cmp, ev_isN, ev_isNN, ev_chain, ev_ite, ev_call, ev_callv, ev_bi, ev_isi, ev_mt, ev_idx, ev_sl, ev_rev, ev_tup, ev_lst, ev_comp, ev_comp2, evIt_seq, evIt_rng1, evIt_rng2, evIt_zip, evIt_enum, evL, evO, evC, evCo, bd_some, bs_some, rt_def, lf_some, nx0_some, bindT_nm, bindT_tp, bindTs_nil, bindTs_cons, wipeE, startE, setNx, setSl, slot, modV, seqV_lst, seqV_tup, zipV_ll, zipV_tt, zipV_lt, zipV_tl, enumV_lst, enumV_tup, biV_lenL, biV_lenT, biV_sumL, biV_sumT, biV_allL, biV_anyL, biV_listL, biV_listT, biV_tupL, biV_tupT, biV_intI, binV_addI, binV_subI, binV_addL, binV_addT, binV_mod, cmpV_eq, cmpV_ne, cmpV_lt, cmpV_le, cmpV_gt, cmpV_ge, cmpV_innL, cmpV_innT, cmpV_ninL, cmpV_ninT, isiV, slV, revV, idxV_l, idxV_t, endF, h8, h7, hn, hf, hl, ht, setAll]
theorem r_system (d : Nat) (g : G) (hg : CG g) : ∃ s : Sy, s.Ok ∧ s.rows.length ≤ 6 ∧ s.w ≤ 7 ∧ ∃ g', CG g' ∧ runF tab fns (d + 3) 30 [.cell 0] g = some (.v s.P, g') := by
  obtain ⟨a, b, rfl⟩ := hg
  obtain ⟨a1, b1, w, h8, hw⟩ := r_rollN (d + 1) a b 8 8 rfl (by decide) (by decide)
  obtain ⟨a2, b2, n, h7, hn⟩ := r_rollN (d + 1) a1 b1 7 7 rfl (by decide) (by decide)
  obtain ⟨wi, hwi⟩ : ∃ wi : Int, wi = w := ⟨_, rfl⟩
  obtain ⟨rows, right, s4, g3, hR, hg3, hf⟩ := sys_loop d w wi hwi (by omega) (rng 0 n) 0 (by rw [rng0, List.length_map, List.length_range]; omega) [] [] ⟨(fun r hr => by cases hr), rfl, rfl⟩ .no (cg a2 b2) ⟨_, _, rfl⟩
  have hsz := hR.z
  have hlr := hR.l
  rw [rng0, List.length_map, List.length_range, Nat.zero_add] at hsz hlr
  refine ⟨⟨w, rows, right⟩, ⟨by simp only; omega, by simp only; omega, hR.r, by simp only; omega⟩, by simp only; omega, by simp only; omega, g3, hg3, ?_⟩
  rw [runF_at (f := f_law_system) rfl rfl, sys_body]
  rw [← hwi] at h8
  have e := sys_end (runF tab fns (d + 2)) wi (cg a b) (cg a1 b1) (cg a2 b2) g3 (rng 0 n) (rows.map bT) (rw right) n s4 h8 h7 (small_n (by omega)) hf (by obtain ⟨_, _, rfl⟩ := hg3; rfl)
  rw [hwi] at e
  exact e
end NK01
end

section
set_option Elab.async false
set_option linter.all false
set_option maxRecDepth 100000
set_option maxHeartbeats 2000000
namespace NK01
open PySem Z
theorem r_like_tup (d : Nat) (xs ys : List PV) (P : PV × PV → Bool) (g : G) (hl : xs.length = ys.length) (h : ∀ p ∈ xs.zip ys, runF tab fns (d + 2) 23 [p.1, p.2] g = some (.v (.bl (P p)), g)) :
    runF tab fns (d + 3) 23 [.tup xs, .tup ys] g = some (.v (.bl ((xs.zip ys).all P)), g) := by
  rw [runF_at (f := f_law_like) rfl rfl]
  have h1 := r_sort (d + 1) (.tup xs) g rfl
  have h2 := r_sort (d + 1) (.tup ys) g rfl
  simp only [sortV] at h1 h2
  have hc : compGo (ev tab (runF tab fns (d + 2)) 55).e [.val (.tup xs), .val (.tup ys), .val (.int 4), .no, .no] (.cst (.int 1)) (.tp [.nm 3, .nm 4]) (some (.not (.call 23 [.var 3, .var 4]))) g (zipP xs ys) = some (.v (((xs.zip ys).filter fun p => !P p).map fun _ => .int 1), g) := by
    have e : zipP xs ys = (xs.zip ys).map fun p => .tup [p.1, p.2] := by
      have := zipP_map (fun x : PV => x) (fun x : PV => x) xs ys
      rw [List.map_id', List.map_id'] at this
      exact this
    rw [e, compGo_filter (fun _ => .int 1) (fun p => !P p)]
    intro p hp
    refine ⟨_, rfl, ?_, fun _ => rfl⟩
    have := h p hp
    simp [ev_b, evB1, evS1, ev_var, ev_pk, ev_cst, ev_gv, ev_gf, ev_bin, ev_neg, ev_not, ev_and, ev_or, ev_cmp, ev_isN, ev_isNN, ev_chain, ev_ite, ev_call, ev_callv, ev_bi, ev_isi, ev_mt, ev_idx, ev_sl, ev_rev, ev_tup, ev_lst, ev_comp, ev_comp2, evIt_seq, evIt_rng1, evIt_rng2, evIt_zip, evIt_enum, evL, evO, evC, evCo, bd_some, bs_some, rt_def, lf_some, nx0_some, bindT_nm, bindT_tp, bindTs_nil, bindTs_cons, wipeE, startE, setNx, setSl, slot, modV, seqV_lst, seqV_tup, zipV_ll, zipV_tt, zipV_lt, zipV_tl, enumV_lst, enumV_tup, biV_lenL, biV_lenT, biV_sumL, biV_sumT, biV_allL, biV_anyL, biV_listL, biV_listT, biV_tupL, biV_tupT, biV_intI, binV_addI, binV_subI, binV_addL, binV_addT, binV_mod, cmpV_eq, cmpV_ne, cmpV_lt, cmpV_le, cmpV_gt, cmpV_ge, cmpV_innL, cmpV_innT, cmpV_ninL, cmpV_ninT, isiV, slV, revV, idxV_l, idxV_t, endF, this]
  have hk : (PV.lst (((xs.zip ys).filter fun p => !P p).map fun _ => PV.int 1)).okd DEEP = true := by
    show (((xs.zip ys).filter fun p => !P p).map fun _ => PV.int 1).all (PV.okd 39) = true
    rw [List.all_eq_true]
    intro x hx
    obtain ⟨_, _, rfl⟩ := List.mem_map.mp hx
    rfl
  have he := eqE hk
  have hiso : (((xs.zip ys).filter fun p => !P p).map fun _ => PV.int 1).isEmpty = (xs.zip ys).all P := by
    rw [List.isEmpty_map]
    generalize xs.zip ys = l
    induction l with
    | nil => rfl
    | cons p l ih =>
      rw [List.filter_cons, List.all_cons]
      cases hP : P p with
      | true => simpa using ih
      | false => rfl
  rw [hiso] at he
  have hq : ∀ z : Int, eqV (.int z) (.int z) = some true := fun z => by rw [eqVI, beq_self_eq_true]
  obtain ⟨li, hli⟩ : ∃ li : Int, li = xs.length := ⟨_, rfl⟩
  have hlx : ∀ n, (ev tab (runF tab fns (d + 2)) (n + 2)).e [.val (.tup xs), .val (.tup ys), .val (.int 4), .no, .no] g (.bi .len (.var 0)) = some (.v (.int li), g) := fun n => by
    rw [ev_bi, ev_var, hli]; rfl
  have hly : ∀ n, (ev tab (runF tab fns (d + 2)) (n + 2)).e [.val (.tup xs), .val (.tup ys), .val (.int 4), .no, .no] g (.bi .len (.var 1)) = some (.v (.int li), g) := fun n => by
    rw [ev_bi, ev_var, hli, hl]; rfl
  generalize (((xs.zip ys).filter fun p => !P p).map fun _ => PV.int 1) = X at hc he
  rw [show f_law_like.body = [.set false 2 (.call 22 [.var 1]), .ite (.or (.cmp .ne (.call 22 [.var 0]) (.var 2)) (.cmp .eq (.var 2) (.cst (.int 6)))) [.ret (.cst (.bl false))] [], .ite (.cmp .inn (.var 2) (.tup [.cst (.int 4), .cst (.int 5)])) [.ret (.and (.cmp .eq (.bi .len (.var 0)) (.bi .len (.var 1))) (.cmp .eq (.comp (.cst (.int 1)) (.tp [.nm 3, .nm 4]) (.zip (.var 0) (.var 1)) (.some (.not (.call 23 [.var 3, .var 4]))) [3, 4]) (.lst [])))] [], .ret (.cmp .eq (.var 0) (.var 1))] from rfl]
  generalize hC : E.bi .len (.var 0) = cc at hlx ⊢
  generalize hD : E.bi .len (.var 1) = dd at hly ⊢
  have hN : f_law_like.names.length = 5 := rfl
  rw [hN]
  simp [ev_b, evB1, evS1, ev_var, ev_pk, ev_cst, ev_gv, ev_gf, ev_bin, ev_neg, ev_not, ev_and, ev_or, ev_cmp, ev_isN, ev_isNN, ev_chain, ev_ite, ev_call, ev_callv, ev_bi, ev_isi, ev_mt, ev_idx, ev_sl, ev_rev, ev_tup, ev_lst, ev_comp, ev_comp2, evIt_seq, evIt_rng1, evIt_rng2, evIt_zip, evIt_enum, evL, evO, evC, evCo, bd_some, bs_some, rt_def, lf_some, nx0_some, bindT_nm, bindT_tp, bindTs_nil, bindTs_cons, wipeE, startE, setNx, setSl, slot, modV, seqV_lst, seqV_tup, zipV_ll, zipV_tt, zipV_lt, zipV_tl, enumV_lst, enumV_tup, biV_lenL, biV_lenT, biV_sumL, biV_sumT, biV_allL, biV_anyL, biV_listL, biV_listT, biV_tupL, biV_tupT, biV_intI, binV_addI, binV_subI, binV_addL, binV_addT, binV_mod, cmpV_eq, cmpV_ne, cmpV_lt, cmpV_le, cmpV_gt, cmpV_ge, cmpV_innL, cmpV_innT, cmpV_ninL, cmpV_ninT, isiV, slV, revV, idxV_l, idxV_t, endF, h1, h2, hc, he, hq, hlx, hly, eqVI, okI, oksI, inI, flatP]
def Lk (n : Nat) (v : PV) : Prop := ∀ d g, n ≤ d → runF tab fns d 23 [v, v] g = some (.v (.bl true), g)
theorem Lk.int (i : Int) : Lk 2 (.int i) := fun d g h => by
  obtain ⟨k, rfl⟩ : ∃ k, d = k + 2 := ⟨d - 2, by omega⟩
  rw [r_like_int, beq_self_eq_true]
theorem Lk.bl (b : Bool) : Lk 2 (.bl b) := fun d g h => by
  obtain ⟨k, rfl⟩ : ∃ k, d = k + 2 := ⟨d - 2, by omega⟩
  rw [r_like_bl, beq_self_eq_true]
theorem r_like_non (d : Nat) (g : G) : runF tab fns (d + 2) 23 [.non, .non] g = some (.v (.bl true), g) := by
  rw [runF_at (f := f_law_like) rfl rfl]
  have h1 := r_sort d .non g rfl
  simp only [sortV] at h1
  have h3 : eqV .non .non = some true := rfl
  simp [ev_b, evB1, evS1, ev_var, ev_pk, ev_cst, ev_gv, ev_gf, ev_bin, ev_neg, ev_not, ev_and, ev_or, ev_cmp, ev_isN, ev_isNN, ev_chain, ev_ite, ev_call, ev_callv, ev_bi, ev_isi, ev_mt, ev_idx, ev_sl, ev_rev, ev_tup, ev_lst, ev_comp, ev_comp2, evIt_seq, evIt_rng1, evIt_rng2, evIt_zip, evIt_enum, evL, evO, evC, evCo, bd_some, bs_some, rt_def, lf_some, nx0_some, bindT_nm, bindT_tp, bindTs_nil, bindTs_cons, wipeE, startE, setNx, setSl, slot, modV, seqV_lst, seqV_tup, zipV_ll, zipV_tt, zipV_lt, zipV_tl, enumV_lst, enumV_tup, biV_lenL, biV_lenT, biV_sumL, biV_sumT, biV_allL, biV_anyL, biV_listL, biV_listT, biV_tupL, biV_tupT, biV_intI, binV_addI, binV_subI, binV_addL, binV_addT, binV_mod, cmpV_eq, cmpV_ne, cmpV_lt, cmpV_le, cmpV_gt, cmpV_ge, cmpV_innL, cmpV_innT, cmpV_ninL, cmpV_ninT, isiV, slV, revV, idxV_l, idxV_t, endF, f_law_like, h1, h3, eqVI, okI, oksI, inI, flatP]
theorem Lk.non : Lk 2 .non := fun d g h => by
  obtain ⟨k, rfl⟩ : ∃ k, d = k + 2 := ⟨d - 2, by omega⟩
  exact r_like_non k g
theorem Lk.up {n m : Nat} {v : PV} (h : Lk n v) (hm : n ≤ m) : Lk m v := fun d g hd => h d g (Nat.le_trans hm hd)
theorem zip_self {α : Type} : ∀ (l : List α), l.zip l = l.map fun x => (x, x)
  | [] => rfl
  | x :: l => by rw [List.zip_cons_cons, zip_self l]; rfl
theorem Lk.seq {n : Nat} (hn : 2 ≤ n) {l : List PV} (h : ∀ x ∈ l, Lk n x) : Lk (n + 1) (.tup l) ∧ Lk (n + 1) (.lst l) := by
  have e : (l.zip l).all (fun _ => true) = true := List.all_eq_true.mpr fun _ _ => rfl
  constructor
  · intro d g hd
    obtain ⟨k, rfl⟩ : ∃ k, d = k + 3 := ⟨d - 3, by omega⟩
    rw [r_like_tup k l l (fun _ => true) g rfl, e]
    intro p hp
    rw [zip_self] at hp
    obtain ⟨x, hx, rfl⟩ := List.mem_map.mp hp
    exact h x hx _ g (by omega)
  · intro d g hd
    obtain ⟨k, rfl⟩ : ∃ k, d = k + 3 := ⟨d - 3, by omega⟩
    rw [r_like_lst k l l (fun _ => true) g rfl, e]
    intro p hp
    rw [zip_self] at hp
    obtain ⟨x, hx, rfl⟩ := List.mem_map.mp hp
    exact h x hx _ g (by omega)
theorem Lk.bT (r : Row) : Lk 3 (bT r) := (Lk.seq (Nat.le_refl _) fun x hx => by
  obtain ⟨b, _, rfl⟩ := List.mem_map.mp hx
  exact Lk.int _).1
theorem Lk.bls (l : List Bool) : Lk 3 (.lst (l.map .bl)) := (Lk.seq (Nat.le_refl _) fun x hx => by
  obtain ⟨b, _, rfl⟩ := List.mem_map.mp hx
  exact Lk.bl _).2
def lamps : Sy := ⟨3, [[true, true, false], [true, true, true], [false, true, true]], [true, true, true]⟩
def twins : Sy := ⟨2, [[true, true], [true, true]], [false, true]⟩
def sy1 : Sy := ⟨0, [], []⟩
def sy2 : Sy := ⟨0, [[]], [true]⟩
def sy3 : Sy := ⟨0, [[]], [false]⟩
def sy4 : Sy := ⟨5, [], []⟩
theorem ok_lamps : lamps.Ok := ⟨by decide, by decide, by decide, by decide⟩
theorem ok_twins : twins.Ok := ⟨by decide, by decide, by decide, by decide⟩
theorem ok1 : sy1.Ok := ⟨by decide, by decide, by decide, by decide⟩
theorem ok2 : sy2.Ok := ⟨by decide, by decide, by decide, by decide⟩
theorem ok3 : sy3.Ok := ⟨by decide, by decide, by decide, by decide⟩
theorem ok4 : sy4.Ok := ⟨by decide, by decide, by decide, by decide⟩
end NK01
end

section
set_option Elab.async false
set_option linter.all false
set_option maxRecDepth 100000
set_option maxHeartbeats 2000000
namespace NK01
open PySem Z
def lawB : List S := [.ite (.not (.call 32 [.var 1, .call 30 [.var 1]])) [.ret (.cst (.bl false))] []]
def lawS (e3 e4 s1 s2 s3 s4 w : E) : List S := [.set true 1 (.call 19 [.var 0]), .mkc 1, .for (.nm 2) (.rng1 (.cst (.int 7))) lawB, .par false [(false, 3, e3), (false, 4, e4)], .set false 5 (.lst [.call 12 [.var 3], .call 13 [.var 3], .call 13 [.var 4], .call 14 [.var 4], .call 17 [.var 4], .call 17 [.var 3]]), .set false 5 (.bin .add (.var 5) (.lst [.call 13 [s1], .call 14 [s2], .call 13 [s3], .call 12 [s4]])), .ret (.call 23 [.var 5, w])]
def tw (l : List Int) : E := .tup (l.map fun i => .cst (.int i))
def wE : E := .lst [.cst (.int 3), tw [0, 1, 0], .cst .non, tw [1, 1], .tup [tw [1, 1]], .tup [], .tup [], tw [1], .tup [], .cst (.int 0)]
theorem law_body : f_law.body = lawS (.tup [.cst (.int 3), .tup [tw [1, 1, 0], tw [1, 1, 1], tw [0, 1, 1]], tw [1, 1, 1]]) (.tup [.cst (.int 2), .tup [tw [1, 1], tw [1, 1]], tw [0, 1]]) (.tup [.cst (.int 0), .tup [], .tup []]) (.tup [.cst (.int 0), .tup [.tup []], .tup [.cst (.int 1)]]) (.tup [.cst (.int 0), .tup [.tup []], .tup [.cst (.int 0)]]) (.tup [.cst (.int 5), .tup [], .tup []]) wE := rfl
def lawE (ns : List Int) (s2 s3 s4 s5 : Sl) : Z.Env := [.val (.scr ns), .val (.cell 0), s2, s3, s4, s5]
theorem law_turn (cf : CF) (ns : List Int) (s2 : Sl) (g g1 g2 : G) (S : PV) (h1 : cf 30 [.cell 0] g = some (.v S, g1)) (h2 : cf 32 [.cell 0, S] g1 = some (.v (.bl true), g2)) : (ev tab cf 59).b (lawE ns s2 .no .no .no) g lawB = some (.nx (lawE ns s2 .no .no .no), g2) := by
  simp [ev_b, evB1, evS1, ev_var, ev_pk, ev_cst, ev_gv, ev_gf, ev_bin, ev_neg, ev_not, ev_and, ev_or, ev_cmp, ev_isN, ev_isNN, ev_chain, ev_ite, ev_call, ev_callv, ev_bi, ev_isi, ev_mt, ev_idx, ev_sl, ev_rev, ev_tup, ev_lst, ev_comp, ev_comp2, evIt_seq, evIt_rng1, evIt_rng2, evIt_zip, evIt_enum, evL, evO, evC, evCo, bd_some, bs_some, rt_def, lf_some, nx0_some, bindT_nm, bindT_tp, bindTs_nil, bindTs_cons, wipeE, startE, setNx, setSl, slot, modV, seqV_lst, seqV_tup, zipV_ll, zipV_tt, zipV_lt, zipV_tl, enumV_lst, enumV_tup, biV_lenL, biV_lenT, biV_sumL, biV_sumT, biV_allL, biV_anyL, biV_listL, biV_listT, biV_tupL, biV_tupT, biV_intI, binV_addI, binV_subI, binV_addL, binV_addT, binV_mod, cmpV_eq, cmpV_ne, cmpV_lt, cmpV_le, cmpV_gt, cmpV_ge, cmpV_innL, cmpV_innT, cmpV_ninL, cmpV_ninT, isiV, slV, revV, idxV_l, idxV_t, endF, lawB, lawE, h1, h2]
theorem law_loop (cf : CF) (ns : List Int) (h : ∀ g, CG g → ∃ g1 g2 S, CG g2 ∧ cf 30 [.cell 0] g = some (.v S, g1) ∧ cf 32 [.cell 0, S] g1 = some (.v (.bl true), g2)) : ∀ (l : List PV) (s2 : Sl) (g : G), CG g → ∃ s2' g', CG g' ∧ forGo (ev tab cf 59).b (.nm 2) lawB (lawE ns s2 .no .no .no) g l = some (.nx (lawE ns s2' .no .no .no), g')
  | [], s2, g, hg => ⟨s2, g, hg, rfl⟩
  | x :: l, s2, g, hg => by
    obtain ⟨g1, g2, S, hg2, h1, h2⟩ := h g hg
    obtain ⟨s2', g', hg', q⟩ := law_loop cf ns h l (.val x) g2 hg2
    refine ⟨s2', g', hg', ?_⟩
    have hb : bindT (.nm 2) x (lawE ns s2 .no .no .no) = some (lawE ns (.val x) .no .no .no) := rfl
    rw [forGo, hb]
    simp only [law_turn cf ns (.val x) g g1 g2 S h1 h2]
    exact q
theorem law_1 (cf : CF) (ns : List Int) (a b : Int) (e3 e4 s1 s2 s3 s4 w : E) (V3 V4 P1 P2 P3 P4 W t1 t2 t3 t4 t5 t6 t7 t8 t9 t0 : PV) (h19 : cf 19 [.scr ns] [] = some (.v (.lst [.int a, .int b]), [])) (h : ∀ g, CG g → ∃ g1 g2 S, CG g2 ∧ cf 30 [.cell 0] g = some (.v S, g1) ∧ cf 32 [.cell 0, S] g1 = some (.v (.bl true), g2))
    (v3 : ∀ ρ g n, (ev tab cf (n + 6)).e ρ g e3 = some (.v V3, g)) (v4 : ∀ ρ g n, (ev tab cf (n + 6)).e ρ g e4 = some (.v V4, g)) (v1 : ∀ ρ g n, (ev tab cf (n + 6)).e ρ g s1 = some (.v P1, g)) (v2 : ∀ ρ g n, (ev tab cf (n + 6)).e ρ g s2 = some (.v P2, g)) (v5 : ∀ ρ g n, (ev tab cf (n + 6)).e ρ g s3 = some (.v P3, g)) (v6 : ∀ ρ g n, (ev tab cf (n + 6)).e ρ g s4 = some (.v P4, g)) (vw : ∀ ρ g n, (ev tab cf (n + 6)).e ρ g w = some (.v (.lst [t1, t2, t3, t4, t5, t6, t7, t8, t9, t0]), g))
    (c1 : ∀ g, cf 12 [V3] g = some (.v t1, g)) (c2 : ∀ g, cf 13 [V3] g = some (.v t2, g)) (c3 : ∀ g, cf 13 [V4] g = some (.v t3, g)) (c4 : ∀ g, cf 14 [V4] g = some (.v t4, g)) (c5 : ∀ g, cf 17 [V4] g = some (.v t5, g)) (c6 : ∀ g, cf 17 [V3] g = some (.v t6, g)) (c7 : ∀ g, cf 13 [P1] g = some (.v t7, g)) (c8 : ∀ g, cf 14 [P2] g = some (.v t8, g)) (c9 : ∀ g, cf 13 [P3] g = some (.v t9, g)) (c0 : ∀ g, cf 12 [P4] g = some (.v t0, g))
    (hL : ∀ g, cf 23 [.lst [t1, t2, t3, t4, t5, t6, t7, t8, t9, t0], .lst [t1, t2, t3, t4, t5, t6, t7, t8, t9, t0]] g = some (.v (.bl true), g)) :
    ∃ g', endF 0 ((ev tab cf 60).b (startE 6 [.scr ns]) [] (lawS e3 e4 s1 s2 s3 s4 w)) = some (.v (.bl true), g') := by
  obtain ⟨s2', g', hg', hf⟩ := law_loop cf ns h (rng 0 7) .no (cg a b) ⟨_, _, rfl⟩
  refine ⟨g'.take 0, ?_⟩
  have hn : rng1V (.int 7) = some (rng 0 7) := small_n (n := 7) (by decide)
  have hfl : flatC (.lst [.int a, .int b]) = true := rfl
  have hg0 : ([] : G) ++ [.lst [.int a, .int b]] = cg a b := rfl
  have hlim : 6 + 4 ≤ LIM := by decide
  have hlim2 : 10 ≤ LIM := by decide
  unfold lawE at hf
  unfold lawS
  generalize lawB = B at hf ⊢
  generalize cg a b = g0 at hf hg0
  simp only [List.nil_append] at hg0
  simp [ev_b, evB1, evS1, ev_var, ev_pk, ev_cst, ev_gv, ev_gf, ev_bin, ev_neg, ev_not, ev_and, ev_or, ev_cmp, ev_isN, ev_isNN, ev_chain, ev_ite, ev_call, ev_callv, ev_bi, ev_isi, ev_mt, ev_idx, ev_sl, ev_rev, ev_tup, ev_lst, ev_comp, ev_comp2, evIt_seq, evIt_rng1, evIt_rng2, evIt_zip, evIt_enum, evL, evO, evC, evCo, bd_some, bs_some, rt_def, lf_some, nx0_some, bindT_nm, bindT_tp, bindTs_nil, bindTs_cons, wipeE, startE, setNx, setSl, slot, modV, seqV_lst, seqV_tup, zipV_ll, zipV_tt, zipV_lt, zipV_tl, enumV_lst, enumV_tup, biV_lenL, biV_lenT, biV_sumL, biV_sumT, biV_allL, biV_anyL, biV_listL, biV_listT, biV_tupL, biV_tupT, biV_intI, binV_addI, binV_subI, binV_addL, binV_addT, binV_mod, cmpV_eq, cmpV_ne, cmpV_lt, cmpV_le, cmpV_gt, cmpV_ge, cmpV_innL, cmpV_innT, cmpV_ninL, cmpV_ninT, isiV, slV, revV, idxV_l, idxV_t, endF, h19, hfl, hg0, hn, hf, setAll, v3, v4, v1, v2, v5, v6, vw, c1, c2, c3, c4, c5, c6, c7, c8, c9, c0, hL, hlim, hlim2, flatP]
end NK01
end

section
set_option Elab.async false
set_option linter.all false
set_option maxRecDepth 100000
set_option maxHeartbeats 2000000
namespace NK01
open PySem Z
theorem st_lamps : settB lamps = (true, [false, true, false]) := by decide +kernel
theorem st_twins : settB twins = (false, [true, true]) := by decide +kernel
theorem st_1 : settB sy1 = (true, []) := by decide +kernel
theorem st_2 : settB sy2 = (false, [true]) := by decide +kernel
theorem st_3 : settB sy3 = (true, []) := by decide +kernel
theorem qt_lamps : quietB lamps = [] := by decide +kernel
theorem qt_twins : quietB twins = [[true, true]] := by decide +kernel
theorem rk_lamps : rankB lamps = 3 := by decide +kernel
theorem rk_4 : rankB sy4 = 0 := by decide +kernel
def Good32 (n : Nat) : Prop := ∀ (d : Nat) (s : Sy) (g : G), s.Ok → s.rows.length ≤ 6 → s.w ≤ 7 → CG g → ∃ g', CG g' ∧ runF tab fns (d + n) 32 [.cell 0, s.P] g = some (.v (.bl true), g')
theorem law_ends (h32 : Good32 20) (ns : List Int) (hn : ns.length ≤ 63) : ∃ g', runF tab fns 24 33 [.scr ns] [] = some (.v (.bl true), g') := by
  rw [runF_at (f := f_law) rfl rfl, law_body]
  obtain ⟨a, b, h19⟩ := r_cup 22 ns hn []
  refine law_1 (runF tab fns 23) ns a b _ _ _ _ _ _ wE lamps.P twins.P sy1.P sy2.P sy3.P sy4.P (.lst [.int 3, bT [false, true, false], .non, bT [true, true], .tup [bT [true, true]], .tup [], bT [], bT [true], bT [], .int 0]) (.int 3) (bT [false, true, false]) .non (bT [true, true]) (.tup [bT [true, true]]) (.tup []) (bT []) (bT [true]) (bT []) (.int 0) h19 ?_ (fun _ _ _ => rfl) (fun _ _ _ => rfl) (fun _ _ _ => rfl) (fun _ _ _ => rfl) (fun _ _ _ => rfl) (fun _ _ _ => rfl) (fun _ _ _ => rfl) ?_ ?_ ?_ ?_ ?_ ?_ ?_ ?_ ?_ ?_ ?_
  · intro g hg
    obtain ⟨s, ok, h6, h7, g1, hg1, q⟩ := r_system 20 g hg
    obtain ⟨g2, hg2, q2⟩ := h32 3 s g1 ok h6 h7 hg1
    exact ⟨g1, g2, s.P, hg2, q, q2⟩
  · intro g
    have := r_rank 18 lamps ok_lamps g
    rw [rk_lamps] at this
    exact this
  · intro g
    have := r_solution 18 lamps ok_lamps g
    rw [st_lamps] at this
    exact this
  · intro g
    have := r_solution 18 twins ok_twins g
    rw [st_twins] at this
    exact this
  · intro g
    have := r_mask 18 twins ok_twins g
    rw [st_twins] at this
    exact this
  · intro g
    have := r_quiet_rows 18 twins ok_twins g
    rw [qt_twins] at this
    exact this
  · intro g
    have := r_quiet_rows 18 lamps ok_lamps g
    rw [qt_lamps] at this
    exact this
  · intro g
    have := r_solution 18 sy1 ok1 g
    rw [st_1] at this
    exact this
  · intro g
    have := r_mask 18 sy2 ok2 g
    rw [st_2] at this
    exact this
  · intro g
    have := r_solution 18 sy3 ok3 g
    rw [st_3] at this
    exact this
  · intro g
    have := r_rank 18 sy4 ok4 g
    rw [rk_4] at this
    exact this
  · intro g
    have hT : Lk 4 (.tup [bT [true, true]]) := (Lk.seq (n := 3) (by decide) fun x hx => by
      rw [List.mem_singleton.mp hx]; exact Lk.bT _).1
    have hE : Lk 4 (.tup []) := (Lk.seq (n := 3) (by decide) fun x hx => by cases hx).1
    exact (Lk.seq (n := 4) (by decide) (l := [.int 3, bT [false, true, false], .non, bT [true, true], .tup [bT [true, true]], .tup [], bT [], bT [true], bT [], .int 0]) fun x hx => by
      simp only [List.mem_cons, List.not_mem_nil, or_false] at hx
      rcases hx with h | h | h | h | h | h | h | h | h | h <;> rw [h]
      · exact (Lk.int _).up (by decide)
      · exact (Lk.bT _).up (by decide)
      · exact Lk.non.up (by decide)
      · exact (Lk.bT _).up (by decide)
      · exact hT
      · exact hE
      · exact (Lk.bT _).up (by decide)
      · exact (Lk.bT _).up (by decide)
      · exact (Lk.bT _).up (by decide)
      · exact (Lk.int _).up (by decide)).2 23 g (by decide)
end NK01
end

section
set_option Elab.async false
set_option linter.all false
set_option maxRecDepth 100000
set_option maxHeartbeats 2000000
namespace NK01
open PySem Z
theorem bl_cons {cf : CF} {n : Nat} {ρ ρ' : Z.Env} {g g' : G} {x : S} {r : List S} (h : evS1 (ev tab cf n).e (ev tab cf n).b ρ g x = some (.nx ρ', g')) : (ev tab cf (n + 1)).b ρ g (x :: r) = (ev tab cf (n + 1)).b ρ' g' r := by
  rw [ev_b, ev_b, evB1, h]
theorem bl_nil {cf : CF} {n : Nat} {ρ : Z.Env} {g : G} : (ev tab cf (n + 1)).b ρ g [] = some (.nx ρ, g) := rfl
theorem ite_no {cf : CF} {n : Nat} {ρ : Z.Env} {g g' : G} {c : E} {A : List S} (h : (ev tab cf (n + 1)).e ρ g c = some (.v (.bl false), g')) : evS1 (ev tab cf (n + 1)).e (ev tab cf (n + 1)).b ρ g (.ite c A []) = some (.nx ρ, g') := by
  rw [evS1, evC, h]
  rfl
theorem set_ow {cf : CF} {n : Nat} {ρ ρ' : Z.Env} {g g' : G} {i : Nat} {a : E} {l : List PV} (h : (ev tab cf n).e ρ g a = some (.v (.lst l), g')) (hρ : ρ.set i (.own (.lst l)) = ρ') (hi : Nat.ble (i + 1) ρ.length = true) : evS1 (ev tab cf n).e (ev tab cf n).b ρ g (.set true i a) = some (.nx ρ', g') := by
  rw [evS1, h, bs_some]
  simp only [setNx, slot, setSl, if_true]
  rw [if_pos (show i < ρ.length from Nat.le_of_ble_eq_true hi), hρ]
theorem set_va {cf : CF} {n : Nat} {ρ ρ' : Z.Env} {g g' : G} {i : Nat} {a : E} {v : PV} (h : (ev tab cf n).e ρ g a = some (.v v, g')) (hρ : ρ.set i (.val v) = ρ') (hi : Nat.ble (i + 1) ρ.length = true) : evS1 (ev tab cf n).e (ev tab cf n).b ρ g (.set false i a) = some (.nx ρ', g') := by
  rw [evS1, h, bs_some]
  simp only [setNx, slot, setSl, Bool.false_eq_true, if_false]
  rw [if_pos (show i < ρ.length from Nat.le_of_ble_eq_true hi), hρ]
def tC : E := .and (.isNN (.var 8)) (.or (.not (.call 29 [.var 8, .var 16])) (.cmp .nin (.var 8) (.var 14)))
def tO : E := .comp (.call 21 [.var 0, .call 24 [.var 16]]) (.nm 18) (.rng1 (.cst (.int 4))) .none [18]
def tS1 : E := .bin .add tO (.lst [.var 8, .cst .non, .bin .mul (.tup [.cst (.int 0)]) (.var 16), .bin .mul (.tup [.cst (.int 1)]) (.var 16)])
def tS2 : E := .bin .add (.pk 17) (.lst [.bin .mul (.tup [.cst (.bl true)]) (.var 16), .bin .mul (.tup [.cst (.int 2)]) (.var 16)])
def tS3 : E := .bin .add (.pk 17) (.lst [.bi .list (.call 21 [.var 0, .call 24 [.var 16]]), .bin .mul (.tup [.cst (.int 0)]) (.bin .add (.var 16) (.cst (.int 1)))])
def tE1 : E := .comp (.callv 15 [.var 1, .var 19]) (.nm 19) (.seq (.pk 17)) .none [19]
def tE2 : E := .comp (.and (.call 29 [.var 19, .var 16]) (.cmp .inn (.var 19) (.var 14))) (.nm 19) (.seq (.pk 17)) .none [19]
def tB : List S := [.ite tC [.ret (.cst (.bl false))] [], .set true 17 tS1, .set true 17 tS2, .set true 17 tS3, .ite (.not (.call 23 [tE1, tE2])) [.ret (.cst (.bl false))] []]
theorem addL {x y : List PV} (h : x.length + y.length ≤ 1000) : binV .add (.lst x) (.lst y) = some (.lst (x ++ y)) := by
  rw [binV_addL, if_pos]
  exact Nat.le_trans h (by decide)
section
variable (cf : CF) (SP : PV) (u2 u3 u4 u5 u6 u7 u9 u10 u11 u12 u13 u17 u18 u19 u20 u21 u22 u23 : Sl) (v : PV) (K : List PV) (k : Nat) (n : Int) (g g1 g2 : G)
theorem t_c1 : (ev tab cf 58).e [.val (.cell 0), .val SP, u2, u3, u4, u5, u6, u7, .val .non, u9, u10, u11, u12, u13, .val (.lst K), .val (.fn k), .val (.int n), u17, u18, u19, u20, u21, u22, u23] g tC = some (.v (.bl false), g) := by
  simp [ev_b, evB1, evS1, ev_var, ev_pk, ev_cst, ev_gv, ev_gf, ev_bin, ev_neg, ev_not, ev_and, ev_or, ev_cmp, ev_isN, ev_isNN, ev_chain, ev_ite, ev_call, ev_callv, ev_bi, ev_isi, ev_mt, ev_idx, ev_sl, ev_rev, ev_tup, ev_lst, ev_comp, ev_comp2, evIt_seq, evIt_rng1, evIt_rng2, evIt_zip, evIt_enum, evL, evO, evC, evCo, bd_some, bs_some, rt_def, lf_some, nx0_some, bindT_nm, bindT_tp, bindTs_nil, bindTs_cons, wipeE, startE, setNx, setSl, slot, modV, seqV_lst, seqV_tup, zipV_ll, zipV_tt, zipV_lt, zipV_tl, enumV_lst, enumV_tup, biV_lenL, biV_lenT, biV_sumL, biV_sumT, biV_allL, biV_anyL, biV_listL, biV_listT, biV_tupL, biV_tupT, biV_intI, binV_addI, binV_subI, binV_addL, binV_addT, binV_mod, cmpV_eq, cmpV_ne, cmpV_lt, cmpV_le, cmpV_gt, cmpV_ge, cmpV_innL, cmpV_innT, cmpV_ninL, cmpV_ninT, isiV, slV, revV, idxV_l, idxV_t, endF, tC]
theorem t_c2 (x : List PV) (h : cf 29 [.tup x, .int n] g = some (.v (.bl true), g)) (h2 : cmpV .inn (.tup x) (.lst K) = some true) : (ev tab cf 58).e [.val (.cell 0), .val SP, u2, u3, u4, u5, u6, u7, .val (.tup x), u9, u10, u11, u12, u13, .val (.lst K), .val (.fn k), .val (.int n), u17, u18, u19, u20, u21, u22, u23] g tC = some (.v (.bl false), g) := by
  have h3 : (if (PV.tup x).okd DEEP && okds DEEP K then some (!inV (.tup x) K) else none) = some false := by
    rw [cmpV_innL] at h2
    by_cases hk : ((PV.tup x).okd DEEP && okds DEEP K) = true
    · rw [if_pos hk] at h2 ⊢
      cases h2' : inV (.tup x) K with
      | true => rfl
      | false => rw [h2'] at h2; cases h2
    · rw [if_neg hk] at h2
      cases h2
  rw [← cmpV_ninL] at h3
  have h5 : (ev tab cf 57).e [.val (.cell 0), .val SP, u2, u3, u4, u5, u6, u7, .val (.tup x), u9, u10, u11, u12, u13, .val (.lst K), .val (.fn k), .val (.int n), u17, u18, u19, u20, u21, u22, u23] g (.isNN (.var 8)) = some (.v (.bl true), g) := rfl
  generalize PV.tup x = X at h h3 h5 ⊢
  generalize PV.lst K = KK at h3 h5 ⊢
  have h4 : (ev tab cf 56).e [.val (.cell 0), .val SP, u2, u3, u4, u5, u6, u7, .val X, u9, u10, u11, u12, u13, .val KK, .val (.fn k), .val (.int n), u17, u18, u19, u20, u21, u22, u23] g (.cmp .nin (.var 8) (.var 14)) = some (.v (.bl false), g) := by
    rw [ev_cmp]
    have e1 : (ev tab cf 55).e [.val (.cell 0), .val SP, u2, u3, u4, u5, u6, u7, .val X, u9, u10, u11, u12, u13, .val KK, .val (.fn k), .val (.int n), u17, u18, u19, u20, u21, u22, u23] g (.var 8) = some (.v X, g) := rfl
    have e2 : (ev tab cf 55).e [.val (.cell 0), .val SP, u2, u3, u4, u5, u6, u7, .val X, u9, u10, u11, u12, u13, .val KK, .val (.fn k), .val (.int n), u17, u18, u19, u20, u21, u22, u23] g (.var 14) = some (.v KK, g) := rfl
    rw [e1, bd_some, e2, bd_some, h3]; rfl
  unfold tC
  generalize E.cmp .nin (.var 8) (.var 14) = cc at h4 ⊢
  generalize E.isNN (.var 8) = dd at h5 ⊢
  simp [ev_b, evB1, evS1, ev_var, ev_pk, ev_cst, ev_gv, ev_gf, ev_bin, ev_neg, ev_not, ev_and, ev_or, ev_cmp, ev_isN, ev_isNN, ev_chain, ev_ite, ev_call, ev_callv, ev_bi, ev_isi, ev_mt, ev_idx, ev_sl, ev_rev, ev_tup, ev_lst, ev_comp, ev_comp2, evIt_seq, evIt_rng1, evIt_rng2, evIt_zip, evIt_enum, evL, evO, evC, evCo, bd_some, bs_some, rt_def, lf_some, nx0_some, bindT_nm, bindT_tp, bindTs_nil, bindTs_cons, wipeE, startE, setNx, setSl, slot, modV, seqV_lst, seqV_tup, zipV_ll, zipV_tt, zipV_lt, zipV_tl, enumV_lst, enumV_tup, biV_lenL, biV_lenT, biV_sumL, biV_sumT, biV_allL, biV_anyL, biV_listL, biV_listT, biV_tupL, biV_tupT, biV_intI, binV_addI, binV_subI, binV_addL, binV_addT, binV_mod, cmpV_eq, cmpV_ne, cmpV_lt, cmpV_le, cmpV_gt, cmpV_ge, cmpV_innL, cmpV_innT, cmpV_ninL, cmpV_ninT, isiV, slV, revV, idxV_l, idxV_t, endF, h, h4, h5]
theorem t_s1 (O : List PV) (z0 z1 : PV) (hO : compGo (ev tab cf 56).e [.val (.cell 0), .val SP, u2, u3, u4, u5, u6, u7, .val v, u9, u10, u11, u12, u13, .val (.lst K), .val (.fn k), .val (.int n), u17, .no, u19, u20, u21, u22, u23] (.call 21 [.var 0, .call 24 [.var 16]]) (.nm 18) none g (rng 0 4) = some (.v O, g1)) (h0 : binV .mul (.tup [.int 0]) (.int n) = some z0) (h1 : binV .mul (.tup [.int 1]) (.int n) = some z1) (hl : O.length ≤ 900) :
    (ev tab cf 58).e [.val (.cell 0), .val SP, u2, u3, u4, u5, u6, u7, .val v, u9, u10, u11, u12, u13, .val (.lst K), .val (.fn k), .val (.int n), u17, u18, u19, u20, u21, u22, u23] g tS1 = some (.v (.lst (O ++ [v, .non, z0, z1])), g1) := by
  have hn : rng1V (.int 4) = some (rng 0 4) := small_n (n := 4) (by decide)
  have ha := addL (x := O) (y := [v, .non, z0, z1]) (by simp only [List.length_cons, List.length_nil]; omega)
  have e1 : (ev tab cf 57).e [.val (.cell 0), .val SP, u2, u3, u4, u5, u6, u7, .val v, u9, u10, u11, u12, u13, .val (.lst K), .val (.fn k), .val (.int n), u17, u18, u19, u20, u21, u22, u23] g tO = some (.v (.lst O), g1) := by
    simp [ev_b, evB1, evS1, ev_var, ev_pk, ev_cst, ev_gv, ev_gf, ev_bin, ev_neg, ev_not, ev_and, ev_or, ev_cmp, ev_isN, ev_isNN, ev_chain, ev_ite, ev_call, ev_callv, ev_bi, ev_isi, ev_mt, ev_idx, ev_sl, ev_rev, ev_tup, ev_lst, ev_comp, ev_comp2, evIt_seq, evIt_rng1, evIt_rng2, evIt_zip, evIt_enum, evL, evO, evC, evCo, bd_some, bs_some, rt_def, lf_some, nx0_some, bindT_nm, bindT_tp, bindTs_nil, bindTs_cons, wipeE, startE, setNx, setSl, slot, modV, seqV_lst, seqV_tup, zipV_ll, zipV_tt, zipV_lt, zipV_tl, enumV_lst, enumV_tup, biV_lenL, biV_lenT, biV_sumL, biV_sumT, biV_allL, biV_anyL, biV_listL, biV_listT, biV_tupL, biV_tupT, biV_intI, binV_addI, binV_subI, binV_addL, binV_addT, binV_mod, cmpV_eq, cmpV_ne, cmpV_lt, cmpV_le, cmpV_gt, cmpV_ge, cmpV_innL, cmpV_innT, cmpV_ninL, cmpV_ninT, isiV, slV, revV, idxV_l, idxV_t, endF, tO, hn, hO]
  have e2 : (ev tab cf 57).e [.val (.cell 0), .val SP, u2, u3, u4, u5, u6, u7, .val v, u9, u10, u11, u12, u13, .val (.lst K), .val (.fn k), .val (.int n), u17, u18, u19, u20, u21, u22, u23] g1 (.lst [.var 8, .cst .non, .bin .mul (.tup [.cst (.int 0)]) (.var 16), .bin .mul (.tup [.cst (.int 1)]) (.var 16)]) = some (.v (.lst [v, .non, z0, z1]), g1) := by
    simp [ev_b, evB1, evS1, ev_var, ev_pk, ev_cst, ev_gv, ev_gf, ev_bin, ev_neg, ev_not, ev_and, ev_or, ev_cmp, ev_isN, ev_isNN, ev_chain, ev_ite, ev_call, ev_callv, ev_bi, ev_isi, ev_mt, ev_idx, ev_sl, ev_rev, ev_tup, ev_lst, ev_comp, ev_comp2, evIt_seq, evIt_rng1, evIt_rng2, evIt_zip, evIt_enum, evL, evO, evC, evCo, bd_some, bs_some, rt_def, lf_some, nx0_some, bindT_nm, bindT_tp, bindTs_nil, bindTs_cons, wipeE, startE, setNx, setSl, slot, modV, seqV_lst, seqV_tup, zipV_ll, zipV_tt, zipV_lt, zipV_tl, enumV_lst, enumV_tup, biV_lenL, biV_lenT, biV_sumL, biV_sumT, biV_allL, biV_anyL, biV_listL, biV_listT, biV_tupL, biV_tupT, biV_intI, binV_addI, binV_subI, binV_addL, binV_addT, binV_mod, cmpV_eq, cmpV_ne, cmpV_lt, cmpV_le, cmpV_gt, cmpV_ge, cmpV_innL, cmpV_innT, cmpV_ninL, cmpV_ninT, isiV, slV, revV, idxV_l, idxV_t, endF, h0, h1]
  unfold tS1
  rw [ev_bin, e1, bd_some, e2, bd_some, ha]; rfl
theorem t_s2 (O : List PV) (z0 z1 : PV) (h0 : binV .mul (.tup [.bl true]) (.int n) = some z0) (h1 : binV .mul (.tup [.int 2]) (.int n) = some z1) (hl : O.length ≤ 900) :
    (ev tab cf 58).e [.val (.cell 0), .val SP, u2, u3, u4, u5, u6, u7, .val v, u9, u10, u11, u12, u13, .val (.lst K), .val (.fn k), .val (.int n), .own (.lst O), u18, u19, u20, u21, u22, u23] g tS2 = some (.v (.lst (O ++ [z0, z1])), g) := by
  have ha := addL (x := O) (y := [z0, z1]) (by simp only [List.length_cons, List.length_nil]; omega)
  have e1 : (ev tab cf 57).e [.val (.cell 0), .val SP, u2, u3, u4, u5, u6, u7, .val v, u9, u10, u11, u12, u13, .val (.lst K), .val (.fn k), .val (.int n), .own (.lst O), u18, u19, u20, u21, u22, u23] g (.pk 17) = some (.v (.lst O), g) := rfl
  have e2 : (ev tab cf 57).e [.val (.cell 0), .val SP, u2, u3, u4, u5, u6, u7, .val v, u9, u10, u11, u12, u13, .val (.lst K), .val (.fn k), .val (.int n), .own (.lst O), u18, u19, u20, u21, u22, u23] g (.lst [.bin .mul (.tup [.cst (.bl true)]) (.var 16), .bin .mul (.tup [.cst (.int 2)]) (.var 16)]) = some (.v (.lst [z0, z1]), g) := by
    simp [ev_b, evB1, evS1, ev_var, ev_pk, ev_cst, ev_gv, ev_gf, ev_bin, ev_neg, ev_not, ev_and, ev_or, ev_cmp, ev_isN, ev_isNN, ev_chain, ev_ite, ev_call, ev_callv, ev_bi, ev_isi, ev_mt, ev_idx, ev_sl, ev_rev, ev_tup, ev_lst, ev_comp, ev_comp2, evIt_seq, evIt_rng1, evIt_rng2, evIt_zip, evIt_enum, evL, evO, evC, evCo, bd_some, bs_some, rt_def, lf_some, nx0_some, bindT_nm, bindT_tp, bindTs_nil, bindTs_cons, wipeE, startE, setNx, setSl, slot, modV, seqV_lst, seqV_tup, zipV_ll, zipV_tt, zipV_lt, zipV_tl, enumV_lst, enumV_tup, biV_lenL, biV_lenT, biV_sumL, biV_sumT, biV_allL, biV_anyL, biV_listL, biV_listT, biV_tupL, biV_tupT, biV_intI, binV_addI, binV_subI, binV_addL, binV_addT, binV_mod, cmpV_eq, cmpV_ne, cmpV_lt, cmpV_le, cmpV_gt, cmpV_ge, cmpV_innL, cmpV_innT, cmpV_ninL, cmpV_ninT, isiV, slV, revV, idxV_l, idxV_t, endF, h0, h1]
  unfold tS2
  rw [ev_bin, e1, bd_some, e2, bd_some, ha]; rfl
theorem t_s3 (O : List PV) (A : PV) (x : List PV) (z1 : PV) (h24 : cf 24 [.int n] g = some (.v A, g)) (h21 : cf 21 [.cell 0, A] g = some (.v (.tup x), g1)) (h1 : binV .mul (.tup [.int 0]) (.int (n + 1)) = some z1) (hl : O.length ≤ 900) :
    (ev tab cf 58).e [.val (.cell 0), .val SP, u2, u3, u4, u5, u6, u7, .val v, u9, u10, u11, u12, u13, .val (.lst K), .val (.fn k), .val (.int n), .own (.lst O), u18, u19, u20, u21, u22, u23] g tS3 = some (.v (.lst (O ++ [.lst x, z1])), g1) := by
  have ha := addL (x := O) (y := [.lst x, z1]) (by simp only [List.length_cons, List.length_nil]; omega)
  have e1 : (ev tab cf 57).e [.val (.cell 0), .val SP, u2, u3, u4, u5, u6, u7, .val v, u9, u10, u11, u12, u13, .val (.lst K), .val (.fn k), .val (.int n), .own (.lst O), u18, u19, u20, u21, u22, u23] g (.pk 17) = some (.v (.lst O), g) := rfl
  have e2 : (ev tab cf 57).e [.val (.cell 0), .val SP, u2, u3, u4, u5, u6, u7, .val v, u9, u10, u11, u12, u13, .val (.lst K), .val (.fn k), .val (.int n), .own (.lst O), u18, u19, u20, u21, u22, u23] g (.lst [.bi .list (.call 21 [.var 0, .call 24 [.var 16]]), .bin .mul (.tup [.cst (.int 0)]) (.bin .add (.var 16) (.cst (.int 1)))]) = some (.v (.lst [.lst x, z1]), g1) := by
    simp [ev_b, evB1, evS1, ev_var, ev_pk, ev_cst, ev_gv, ev_gf, ev_bin, ev_neg, ev_not, ev_and, ev_or, ev_cmp, ev_isN, ev_isNN, ev_chain, ev_ite, ev_call, ev_callv, ev_bi, ev_isi, ev_mt, ev_idx, ev_sl, ev_rev, ev_tup, ev_lst, ev_comp, ev_comp2, evIt_seq, evIt_rng1, evIt_rng2, evIt_zip, evIt_enum, evL, evO, evC, evCo, bd_some, bs_some, rt_def, lf_some, nx0_some, bindT_nm, bindT_tp, bindTs_nil, bindTs_cons, wipeE, startE, setNx, setSl, slot, modV, seqV_lst, seqV_tup, zipV_ll, zipV_tt, zipV_lt, zipV_tl, enumV_lst, enumV_tup, biV_lenL, biV_lenT, biV_sumL, biV_sumT, biV_allL, biV_anyL, biV_listL, biV_listT, biV_tupL, biV_tupT, biV_intI, binV_addI, binV_subI, binV_addL, binV_addT, binV_mod, cmpV_eq, cmpV_ne, cmpV_lt, cmpV_le, cmpV_gt, cmpV_ge, cmpV_innL, cmpV_innT, cmpV_ninL, cmpV_ninT, isiV, slV, revV, idxV_l, idxV_t, endF, h24, h21, h1]
  unfold tS3
  rw [ev_bin, e1, bd_some, e2, bd_some, ha]; rfl
theorem t_e (O : List PV) (J : PV → Bool) (h1 : ∀ o ∈ O, cf k [SP, o] g = some (.v (.bl (J o)), g)) (h2 : ∀ o ∈ O, ∃ b, cf 29 [o, .int n] g = some (.v (.bl b), g) ∧ (b = false → J o = false) ∧ (b = true → cmpV .inn o (.lst K) = some (J o))) (hL : cf 23 [.lst (O.map fun o => .bl (J o)), .lst (O.map fun o => .bl (J o))] g = some (.v (.bl true), g)) :
    (ev tab cf 58).e [.val (.cell 0), .val SP, u2, u3, u4, u5, u6, u7, .val v, u9, u10, u11, u12, u13, .val (.lst K), .val (.fn k), .val (.int n), .own (.lst O), u18, u19, u20, u21, u22, u23] g (.not (.call 23 [tE1, tE2])) = some (.v (.bl false), g) := by
  have q1 := compGo_map (e := (ev tab cf 55).e) (ρ := [.val (.cell 0), .val SP, u2, u3, u4, u5, u6, u7, .val v, u9, u10, u11, u12, u13, .val (.lst K), .val (.fn k), .val (.int n), .own (.lst O), u18, .no, u20, u21, u22, u23]) (elt := .callv 15 [.var 1, .var 19]) (t := .nm 19) (g := g) (mk := fun x => x) (fun o => .bl (J o)) (l := O) fun o ho => ⟨_, rfl, (by
    have := h1 o ho
    generalize J o = y at this ⊢
    simp [ev_b, evB1, evS1, ev_var, ev_pk, ev_cst, ev_gv, ev_gf, ev_bin, ev_neg, ev_not, ev_and, ev_or, ev_cmp, ev_isN, ev_isNN, ev_chain, ev_ite, ev_call, ev_callv, ev_bi, ev_isi, ev_mt, ev_idx, ev_sl, ev_rev, ev_tup, ev_lst, ev_comp, ev_comp2, evIt_seq, evIt_rng1, evIt_rng2, evIt_zip, evIt_enum, evL, evO, evC, evCo, bd_some, bs_some, rt_def, lf_some, nx0_some, bindT_nm, bindT_tp, bindTs_nil, bindTs_cons, wipeE, startE, setNx, setSl, slot, modV, seqV_lst, seqV_tup, zipV_ll, zipV_tt, zipV_lt, zipV_tl, enumV_lst, enumV_tup, biV_lenL, biV_lenT, biV_sumL, biV_sumT, biV_allL, biV_anyL, biV_listL, biV_listT, biV_tupL, biV_tupT, biV_intI, binV_addI, binV_subI, binV_addL, binV_addT, binV_mod, cmpV_eq, cmpV_ne, cmpV_lt, cmpV_le, cmpV_gt, cmpV_ge, cmpV_innL, cmpV_innT, cmpV_ninL, cmpV_ninT, isiV, slV, revV, idxV_l, idxV_t, endF, this])⟩
  have q2 := compGo_map (e := (ev tab cf 55).e) (ρ := [.val (.cell 0), .val SP, u2, u3, u4, u5, u6, u7, .val v, u9, u10, u11, u12, u13, .val (.lst K), .val (.fn k), .val (.int n), .own (.lst O), u18, .no, u20, u21, u22, u23]) (elt := .and (.call 29 [.var 19, .var 16]) (.cmp .inn (.var 19) (.var 14))) (t := .nm 19) (g := g) (mk := fun x => x) (fun o => .bl (J o)) (l := O) fun o ho => ⟨_, rfl, (by
    obtain ⟨b, p1, p2, p3⟩ := h2 o ho
    generalize J o = y at p2 p3 ⊢
    generalize PV.lst K = KK at p3 ⊢
    have e4 : (ev tab cf 54).e [.val (.cell 0), .val SP, u2, u3, u4, u5, u6, u7, .val v, u9, u10, u11, u12, u13, .val KK, .val (.fn k), .val (.int n), .own (.lst O), u18, .val o, u20, u21, u22, u23] g (.cmp .inn (.var 19) (.var 14)) = lf ((cmpV .inn o KK).map .bl) g := rfl
    show (ev tab cf 55).e [.val (.cell 0), .val SP, u2, u3, u4, u5, u6, u7, .val v, u9, u10, u11, u12, u13, .val KK, .val (.fn k), .val (.int n), .own (.lst O), u18, .val o, u20, u21, u22, u23] g _ = _
    generalize E.cmp .inn (.var 19) (.var 14) = cc at e4 ⊢
    cases b with
    | false =>
      have p2 := p2 rfl
      subst p2
      simp [ev_b, evB1, evS1, ev_var, ev_pk, ev_cst, ev_gv, ev_gf, ev_bin, ev_neg, ev_not, ev_and, ev_or, ev_cmp, ev_isN, ev_isNN, ev_chain, ev_ite, ev_call, ev_callv, ev_bi, ev_isi, ev_mt, ev_idx, ev_sl, ev_rev, ev_tup, ev_lst, ev_comp, ev_comp2, evIt_seq, evIt_rng1, evIt_rng2, evIt_zip, evIt_enum, evL, evO, evC, evCo, bd_some, bs_some, rt_def, lf_some, nx0_some, bindT_nm, bindT_tp, bindTs_nil, bindTs_cons, wipeE, startE, setNx, setSl, slot, modV, seqV_lst, seqV_tup, zipV_ll, zipV_tt, zipV_lt, zipV_tl, enumV_lst, enumV_tup, biV_lenL, biV_lenT, biV_sumL, biV_sumT, biV_allL, biV_anyL, biV_listL, biV_listT, biV_tupL, biV_tupT, biV_intI, binV_addI, binV_subI, binV_addL, binV_addT, binV_mod, cmpV_eq, cmpV_ne, cmpV_lt, cmpV_le, cmpV_gt, cmpV_ge, cmpV_innL, cmpV_innT, cmpV_ninL, cmpV_ninT, isiV, slV, revV, idxV_l, idxV_t, endF, p1]
    | true =>
      have p3 := p3 rfl
      rw [p3] at e4
      simp [ev_b, evB1, evS1, ev_var, ev_pk, ev_cst, ev_gv, ev_gf, ev_bin, ev_neg, ev_not, ev_and, ev_or, ev_cmp, ev_isN, ev_isNN, ev_chain, ev_ite, ev_call, ev_callv, ev_bi, ev_isi, ev_mt, ev_idx, ev_sl, ev_rev, ev_tup, ev_lst, ev_comp, ev_comp2, evIt_seq, evIt_rng1, evIt_rng2, evIt_zip, evIt_enum, evL, evO, evC, evCo, bd_some, bs_some, rt_def, lf_some, nx0_some, bindT_nm, bindT_tp, bindTs_nil, bindTs_cons, wipeE, startE, setNx, setSl, slot, modV, seqV_lst, seqV_tup, zipV_ll, zipV_tt, zipV_lt, zipV_tl, enumV_lst, enumV_tup, biV_lenL, biV_lenT, biV_sumL, biV_sumT, biV_allL, biV_anyL, biV_listL, biV_listT, biV_tupL, biV_tupT, biV_intI, binV_addI, binV_subI, binV_addL, binV_addT, binV_mod, cmpV_eq, cmpV_ne, cmpV_lt, cmpV_le, cmpV_gt, cmpV_ge, cmpV_innL, cmpV_innT, cmpV_ninL, cmpV_ninT, isiV, slV, revV, idxV_l, idxV_t, endF, p1, e4])⟩
  rw [List.map_id'] at q1 q2
  generalize (O.map fun o => PV.bl (J o)) = X at q1 q2 hL
  simp [ev_b, evB1, evS1, ev_var, ev_pk, ev_cst, ev_gv, ev_gf, ev_bin, ev_neg, ev_not, ev_and, ev_or, ev_cmp, ev_isN, ev_isNN, ev_chain, ev_ite, ev_call, ev_callv, ev_bi, ev_isi, ev_mt, ev_idx, ev_sl, ev_rev, ev_tup, ev_lst, ev_comp, ev_comp2, evIt_seq, evIt_rng1, evIt_rng2, evIt_zip, evIt_enum, evL, evO, evC, evCo, bd_some, bs_some, rt_def, lf_some, nx0_some, bindT_nm, bindT_tp, bindTs_nil, bindTs_cons, wipeE, startE, setNx, setSl, slot, modV, seqV_lst, seqV_tup, zipV_ll, zipV_tt, zipV_lt, zipV_tl, enumV_lst, enumV_tup, biV_lenL, biV_lenT, biV_sumL, biV_sumT, biV_allL, biV_anyL, biV_listL, biV_listT, biV_tupL, biV_tupT, biV_intI, binV_addI, binV_subI, binV_addL, binV_addT, binV_mod, cmpV_eq, cmpV_ne, cmpV_lt, cmpV_le, cmpV_gt, cmpV_ge, cmpV_innL, cmpV_innT, cmpV_ninL, cmpV_ninT, isiV, slV, revV, idxV_l, idxV_t, endF, tE1, tE2, q1, q2, hL]
theorem t_turn (O O2 O3 : List PV) (hC : (ev tab cf 58).e [.val (.cell 0), .val SP, u2, u3, u4, u5, u6, u7, .val v, u9, u10, u11, u12, u13, .val (.lst K), .val (.fn k), .val (.int n), u17, u18, u19, u20, u21, u22, u23] g tC = some (.v (.bl false), g)) (h1 : (ev tab cf 58).e [.val (.cell 0), .val SP, u2, u3, u4, u5, u6, u7, .val v, u9, u10, u11, u12, u13, .val (.lst K), .val (.fn k), .val (.int n), u17, u18, u19, u20, u21, u22, u23] g tS1 = some (.v (.lst O), g1)) (h2 : (ev tab cf 58).e [.val (.cell 0), .val SP, u2, u3, u4, u5, u6, u7, .val v, u9, u10, u11, u12, u13, .val (.lst K), .val (.fn k), .val (.int n), .own (.lst O), u18, u19, u20, u21, u22, u23] g1 tS2 = some (.v (.lst O2), g1)) (h3 : (ev tab cf 58).e [.val (.cell 0), .val SP, u2, u3, u4, u5, u6, u7, .val v, u9, u10, u11, u12, u13, .val (.lst K), .val (.fn k), .val (.int n), .own (.lst O2), u18, u19, u20, u21, u22, u23] g1 tS3 = some (.v (.lst O3), g2))
    (hE : (ev tab cf 58).e [.val (.cell 0), .val SP, u2, u3, u4, u5, u6, u7, .val v, u9, u10, u11, u12, u13, .val (.lst K), .val (.fn k), .val (.int n), .own (.lst O3), u18, u19, u20, u21, u22, u23] g2 (.not (.call 23 [tE1, tE2])) = some (.v (.bl false), g2)) :
    (ev tab cf 59).b [.val (.cell 0), .val SP, u2, u3, u4, u5, u6, u7, .val v, u9, u10, u11, u12, u13, .val (.lst K), .val (.fn k), .val (.int n), u17, u18, u19, u20, u21, u22, u23] g tB = some (.nx [.val (.cell 0), .val SP, u2, u3, u4, u5, u6, u7, .val v, u9, u10, u11, u12, u13, .val (.lst K), .val (.fn k), .val (.int n), .own (.lst O3), u18, u19, u20, u21, u22, u23], g2) := by
  unfold tB
  rw [bl_cons (ite_no hC), bl_cons (set_ow (ρ' := [.val (.cell 0), .val SP, u2, u3, u4, u5, u6, u7, .val v, u9, u10, u11, u12, u13, .val (.lst K), .val (.fn k), .val (.int n), .own (.lst O), u18, u19, u20, u21, u22, u23]) h1 rfl rfl), bl_cons (set_ow (ρ' := [.val (.cell 0), .val SP, u2, u3, u4, u5, u6, u7, .val v, u9, u10, u11, u12, u13, .val (.lst K), .val (.fn k), .val (.int n), .own (.lst O2), u18, u19, u20, u21, u22, u23]) h2 rfl rfl), bl_cons (set_ow (ρ' := [.val (.cell 0), .val SP, u2, u3, u4, u5, u6, u7, .val v, u9, u10, u11, u12, u13, .val (.lst K), .val (.fn k), .val (.int n), .own (.lst O3), u18, u19, u20, u21, u22, u23]) h3 rfl rfl), bl_cons (ite_no hE), bl_nil]
end
end NK01
end

section
set_option Elab.async false
set_option linter.all false
set_option maxRecDepth 100000
set_option maxHeartbeats 2000000
namespace NK01
open PySem Z
theorem inV_rows (x : Row) : ∀ K : List Row, inV (bT x) (K.map bT) = decide (x ∈ K)
  | [] => by simp [inV]
  | y :: K => by
    show ((bT y).eqv (bT x) || inV (bT x) (K.map bT)) = _
    rw [eqv_bT, inV_rows x K]
    by_cases e : y = x
    · subst e; simp
    · have e2 : ¬ x = y := fun h => e h.symm
      simp [e, e2]
theorem okds_rows (K : List Row) : okds DEEP (K.map bT) = true := by
  unfold okds
  rw [List.all_eq_true]
  intro y hy
  obtain ⟨r, _, rfl⟩ := List.mem_map.mp hy
  exact okd_bT 39 r
theorem OkV.bT (x : Row) : OkV (bT x) := ⟨rfl, fun l hl => by cases hl; exact sca_rw x, okd_bT 38 x⟩
theorem OkV.bL (x : Row) : OkV (.lst (rw x)) := ⟨rfl, (fun l hl => by cases hl), okd_bL 38 x⟩
theorem OkV.non : OkV .non := ⟨rfl, (fun l hl => by cases hl), rfl⟩
theorem OkV.rep (n : Nat) (x : PV) (h : sca x = true) : OkV (.tup (List.replicate n x)) := by
  refine ⟨rfl, (fun l hl y hy => by cases hl; rw [(List.mem_replicate.mp hy).2]; exact h), ?_⟩
  show (List.replicate n x).all (PV.okd 38) = true
  rw [List.all_eq_true]
  intro y hy
  rw [(List.mem_replicate.mp hy).2]
  cases x <;> first | rfl | cases h
theorem isBits_bT (x : Row) (n : Int) : isBits (bT x) n = decide ((x.length : Int) = n) := by
  rw [isBits_areW (OkV.bT x).s, areW_bT]
section
variable (SP : PV) (u2 u3 u4 u5 u6 u7 u9 u10 u11 u12 u13 u17 u18 u19 u20 u21 u22 u23 : Sl)
theorem r_turn (d : Nat) (v : PV) (Kr : List Row) (k n : Nat) (ni : Int) (hni : ni = n) (hn : n ≤ 7) (hv : v = .non ∨ ∃ x, v = bT x ∧ x ∈ Kr) (hK : ∀ x ∈ Kr, x.length = n)
    (hj : ∀ x g, x.length = n → runF tab fns (d + 6) k [SP, bT x] g = some (.v (.bl (decide (x ∈ Kr))), g)) (hb : ∀ o g, OkV o → areW o n 0 1 = false → runF tab fns (d + 6) k [SP, o] g = some (.v (.bl false), g)) (g : G) (hg : CG g) :
    ∃ s17 g', CG g' ∧ (ev tab (runF tab fns (d + 6)) 59).b [.val (.cell 0), .val SP, u2, u3, u4, u5, u6, u7, .val v, u9, u10, u11, u12, u13, .val (.lst (Kr.map bT)), .val (.fn k), .val (.int ni), u17, u18, u19, u20, u21, u22, u23] g tB = some (.nx [.val (.cell 0), .val SP, u2, u3, u4, u5, u6, u7, .val v, u9, u10, u11, u12, u13, .val (.lst (Kr.map bT)), .val (.fn k), .val (.int ni), s17, u18, u19, u20, u21, u22, u23], g') := by
  have h24 : ∀ g, runF tab fns (d + 6) 24 [.int ni] g = some (.v (.lst ((allB n).map bT)), g) := fun g => r_allI (d + 5) n ni hni g (by omega)
  have h21 : ∀ g, CG g → ∃ x g', runF tab fns (d + 6) 21 [.cell 0, .lst ((allB n).map bT)] g = some (.v (bT x), g') ∧ x.length = n ∧ CG g' := fun g hg => by
    obtain ⟨a, b, rfl⟩ := hg
    obtain ⟨a', b', x, h, hx⟩ := r_someM (d + 4) a b (allB n) bT (by rw [allB_len]; exact Nat.pos_of_ne_zero (by simp)) (by
      rw [allB_len]
      exact Nat.lt_of_le_of_lt (Nat.pow_le_pow_right (by decide) hn) (by decide))
    exact ⟨x, _, h, (allB_mem n x).mp hx, _, _, rfl⟩
  obtain ⟨O, g1, q1, hg1, q3, q4⟩ := compGo_st (e := (ev tab (runF tab fns (d + 6)) 56).e) (ρ := [.val (.cell 0), .val SP, u2, u3, u4, u5, u6, u7, .val v, u9, u10, u11, u12, u13, .val (.lst (Kr.map bT)), .val (.fn k), .val (.int ni), u17, .no, u19, u20, u21, u22, u23]) (elt := .call 21 [.var 0, .call 24 [.var 16]]) (t := .nm 18) CG OkV (rng 0 4) g hg fun y hy g hg => by
    refine ⟨_, rfl, ?_⟩
    obtain ⟨x, g', h, hx, hg'⟩ := h21 g hg
    refine ⟨bT x, g', ?_, hg', OkV.bT x⟩
    have h0 := h24 g
    generalize (allB n).map bT = AA at h h0
    generalize Kr.map bT = KK
    simp [ev_b, evB1, evS1, ev_var, ev_pk, ev_cst, ev_gv, ev_gf, ev_bin, ev_neg, ev_not, ev_and, ev_or, ev_cmp, ev_isN, ev_isNN, ev_chain, ev_ite, ev_call, ev_callv, ev_bi, ev_isi, ev_mt, ev_idx, ev_sl, ev_rev, ev_tup, ev_lst, ev_comp, ev_comp2, evIt_seq, evIt_rng1, evIt_rng2, evIt_zip, evIt_enum, evL, evO, evC, evCo, bd_some, bs_some, rt_def, lf_some, nx0_some, bindT_nm, bindT_tp, bindTs_nil, bindTs_cons, wipeE, startE, setNx, setSl, slot, modV, seqV_lst, seqV_tup, zipV_ll, zipV_tt, zipV_lt, zipV_tl, enumV_lst, enumV_tup, biV_lenL, biV_lenT, biV_sumL, biV_sumT, biV_allL, biV_anyL, biV_listL, biV_listT, biV_tupL, biV_tupT, biV_intI, binV_addI, binV_subI, binV_addL, binV_addT, binV_mod, cmpV_eq, cmpV_ne, cmpV_lt, cmpV_le, cmpV_gt, cmpV_ge, cmpV_innL, cmpV_innT, cmpV_ninL, cmpV_ninT, isiV, slV, revV, idxV_l, idxV_t, endF, h0, h]
  have q3 : O.length = 4 := by rw [q3, rng0, List.length_map, List.length_range]
  obtain ⟨x, g2, h3, hx, hg2⟩ := h21 g1 hg1
  have m0 := mulT (x := .int 0) (w := n) (by omega)
  have m1 := mulT (x := .int 1) (w := n) (by omega)
  have mt := mulT (x := .bl true) (w := n) (by omega)
  have m2 := mulT (x := .int 2) (w := n) (by omega)
  have m3 := mulT (x := .int 0) (w := n + 1) (by omega)
  have e1 : ((n + 1 : Nat) : Int) = ni + 1 := by omega
  rw [← hni] at m0 m1 mt m2
  rw [e1] at m3
  have hC : (ev tab (runF tab fns (d + 6)) 58).e [.val (.cell 0), .val SP, u2, u3, u4, u5, u6, u7, .val v, u9, u10, u11, u12, u13, .val (.lst (Kr.map bT)), .val (.fn k), .val (.int ni), u17, u18, u19, u20, u21, u22, u23] g tC = some (.v (.bl false), g) := by
    rcases hv with rfl | ⟨x, rfl, hx⟩
    · exact t_c1 ..
    · refine t_c2 (x := rw x) (h := ?_) (h2 := ?_) ..
      · have := r_is_bits (d + 5) (bT x) ni g rfl (OkV.bT x).s
        rw [isBits_bT, hK x hx, hni, decide_eq_true rfl] at this
        rw [hni]; exact this
      · show cmpV .inn (bT x) (.lst (Kr.map bT)) = some true
        rw [cmpV_innL, okds_rows, show (bT x).okd DEEP = true from okd_bT 39 x, inV_rows, decide_eq_true hx]; rfl
  have s1 := t_s1 (runF tab fns (d + 6)) SP u2 u3 u4 u5 u6 u7 u9 u10 u11 u12 u13 u17 u18 u19 u20 u21 u22 u23 v (Kr.map bT) k ni g g1 O _ _ q1 m0 m1 (by omega)
  have s2 := t_s2 (runF tab fns (d + 6)) SP u2 u3 u4 u5 u6 u7 u9 u10 u11 u12 u13 u18 u19 u20 u21 u22 u23 v (Kr.map bT) k ni g1 (O ++ [v, .non, .tup (List.replicate n (.int 0)), .tup (List.replicate n (.int 1))]) _ _ mt m2 (by simp; omega)
  have s3 := t_s3 (runF tab fns (d + 6)) SP u2 u3 u4 u5 u6 u7 u9 u10 u11 u12 u13 u18 u19 u20 u21 u22 u23 v (Kr.map bT) k ni g1 g2 (O ++ [v, .non, .tup (List.replicate n (.int 0)), .tup (List.replicate n (.int 1))] ++ [.tup (List.replicate n (.bl true)), .tup (List.replicate n (.int 2))]) _ (rw x) _ (h24 g1) h3 m3 (by simp; omega)
  have hO : ∀ o ∈ O ++ [v, .non, .tup (List.replicate n (.int 0)), .tup (List.replicate n (.int 1))] ++ [.tup (List.replicate n (.bl true)), .tup (List.replicate n (.int 2))] ++ [.lst (rw x), .tup (List.replicate (n + 1) (.int 0))], OkV o := by
    intro o ho
    simp only [List.mem_append, List.mem_cons, List.not_mem_nil, or_false] at ho
    rcases ho with ((h | h | h | h | h) | h | h) | h | h
    · exact q4 o h
    · rw [h]
      rcases hv with rfl | ⟨x, rfl, _⟩
      · exact OkV.non
      · exact OkV.bT x
    · rw [h]; exact OkV.non
    · rw [h]; exact OkV.rep _ _ rfl
    · rw [h]; exact OkV.rep _ _ rfl
    · rw [h]; exact OkV.rep _ _ rfl
    · rw [h]; exact OkV.rep _ _ rfl
    · rw [h]; exact OkV.bL x
    · rw [h]; exact OkV.rep _ _ rfl
  generalize hOO : O ++ [v, .non, .tup (List.replicate n (.int 0)), .tup (List.replicate n (.int 1))] ++ [.tup (List.replicate n (.bl true)), .tup (List.replicate n (.int 2))] ++ [.lst (rw x), .tup (List.replicate (n + 1) (.int 0))] = OO at hO s3
  have hJ : ∀ o ∈ OO, runF tab fns (d + 6) k [SP, o] g2 = some (.v (.bl (isBits o ni && inV o (Kr.map bT))), g2) := fun o ho => by
    have ok := hO o ho
    rw [isBits_areW ok.s]
    cases hw : areW o ni 0 1 with
    | false =>
      rw [hni] at hw
      exact hb o g2 ok hw
    | true =>
      rw [hni] at hw
      obtain ⟨y, rfl, hy⟩ := areW_bits hw
      rw [inV_rows, Bool.true_and]
      exact hj y g2 hy
  have sE := t_e (runF tab fns (d + 6)) SP u2 u3 u4 u5 u6 u7 u9 u10 u11 u12 u13 u18 u19 u20 u21 u22 u23 v (Kr.map bT) k ni g2 OO (fun o => isBits o ni && inV o (Kr.map bT)) hJ (fun o ho => by
    have ok := hO o ho
    refine ⟨isBits o ni, r_is_bits (d + 5) o ni g2 ok.t ok.s, fun h => by rw [h]; rfl, fun h => ?_⟩
    rw [h, Bool.true_and]
    rw [isBits_areW ok.s, hni] at h
    obtain ⟨y, rfl, hy⟩ := areW_bits h
    rw [cmpV_innL, okds_rows, show (bT y).okd DEEP = true from okd_bT 39 y]; rfl) (by
    have := Lk.bls (OO.map fun o => isBits o ni && inV o (Kr.map bT)) (d + 6) g2 (by omega)
    rw [List.map_map] at this
    exact this)
  exact ⟨_, g2, hg2, t_turn (runF tab fns (d + 6)) SP u2 u3 u4 u5 u6 u7 u9 u10 u11 u12 u13 u17 u18 u19 u20 u21 u22 u23 v (Kr.map bT) k ni g g1 g2 _ _ OO hC s1 s2 s3 sE⟩
end
end NK01
end

section
set_option Elab.async false
set_option linter.all false
set_option maxRecDepth 100000
set_option maxHeartbeats 2000000
namespace NK01
open PySem Z
def x5c : E := .comp (.bi .sum (.var 6)) (.nm 6) (.seq (.call 24 [.bi .len (.var 3)])) (.some (.call 28 [.call 27 [.var 3, .var 6], .var 2])) [6]
def x7 : E := .comp (.var 8) (.nm 8) (.seq (.call 24 [.var 2])) (.some (.cmp .eq (.comp (.call 26 [.var 9, .var 8]) (.nm 9) (.seq (.var 3)) .none [9]) (.bi .list (.var 4)))) [8]
def x10 : E := .comp (.var 8) (.nm 8) (.seq (.call 24 [.bi .len (.var 3)])) (.some (.and (.cmp .eq (.call 26 [.var 8, .var 4]) (.cst (.int 1))) (.cmp .nin (.cst (.int 1)) (.call 25 [.call 27 [.var 3, .var 8], .var 2])))) [8]
def x11 : E := .lst [.call 3 [.var 1], .call 12 [.var 1], .cmp .inn (.bi .len (.var 7)) (.tup [.cst (.int 0), .bi .len (.call 24 [.bin .sub (.var 2) (.var 5)])])]
def c6 : E := .not (.call 23 [.var 11, .lst [.cst (.bl true), .var 5, .cst (.bl true)]])
def c8 : E := .or (.cmp .ne (.isN (.var 12)) (.cmp .eq (.var 7) (.lst []))) (.or (.cmp .ne (.isN (.var 13)) (.cmp .eq (.var 10) (.lst []))) (.cmp .eq (.isN (.var 12)) (.isN (.var 13))))
def it9 : E := .tup [.tup [.var 12, .var 7, .gf 15, .var 2], .tup [.var 13, .var 10, .gf 16, .bi .len (.var 3)]]
def cntB (c : Row) : Int := (c.map b2z).sum
def sizesB (s : Sy) : List Int := ((allB s.rows.length).filter fun c => apartB (chosenB s.rows c) s.w).map cntB
def fitsB (s : Sy) : List Row := (allB s.w).filter fun x => decide (s.rows.map (fun r => dotB r x) = s.right)
def masksB (s : Sy) : List Row := (allB s.rows.length).filter fun y => dotB y s.right && !(sumB (chosenB s.rows y) s.w).any id
theorem sum_rw (c : Row) : biV .sum (.tup (rw c)) = some (.int (cntB c)) := by
  show ((intsOf (c.map fun b => .int (b2z b))).map fun ns => PV.int ns.sum) = _
  rw [intsOf_map]; rfl
theorem chosen_le {α : Type} (rows : List α) (c : Row) : (chosenB rows c).length ≤ rows.length := by
  unfold chosenB
  rw [List.length_map]
  refine Nat.le_trans (List.length_filter_le _ _) ?_
  rw [List.length_zip]
  exact Nat.min_le_left _ _
theorem el5 (cf : CF) (wi : Int) (g : G) (SP R c T : PV) (X : List PV) (y : Bool) (h1 : cf 27 [R, c] g = some (.v (.lst X), g)) (h2 : cf 28 [.lst X, .int wi] g = some (.v (.bl y), g)) : (ev tab cf 57).e [.val (.cell 0), .val SP, .val (.int wi), .val R, .val T, .no, .val c, .no, .no, .no, .no, .no, .no, .no, .no, .no, .no, .no, .no, .no, .no, .no, .no, .no] g (.call 28 [.call 27 [.var 3, .var 6], .var 2]) = some (.v (.bl y), g) := by
  simp [ev_b, evB1, evS1, ev_var, ev_pk, ev_cst, ev_gv, ev_gf, ev_bin, ev_neg, ev_not, ev_and, ev_or, ev_cmp, ev_isN, ev_isNN, ev_chain, ev_ite, ev_call, ev_callv, ev_bi, ev_isi, ev_mt, ev_idx, ev_sl, ev_rev, ev_tup, ev_lst, ev_comp, ev_comp2, evIt_seq, evIt_rng1, evIt_rng2, evIt_zip, evIt_enum, evL, evO, evC, evCo, bd_some, bs_some, rt_def, lf_some, nx0_some, bindT_nm, bindT_tp, bindTs_nil, bindTs_cons, wipeE, startE, setNx, setSl, slot, modV, seqV_lst, seqV_tup, zipV_ll, zipV_tt, zipV_lt, zipV_tl, enumV_lst, enumV_tup, biV_lenL, biV_lenT, biV_sumL, biV_sumT, biV_allL, biV_anyL, biV_listL, biV_listT, biV_tupL, biV_tupT, biV_intI, binV_addI, binV_subI, binV_addL, binV_addT, binV_mod, cmpV_eq, cmpV_ne, cmpV_lt, cmpV_le, cmpV_gt, cmpV_ge, cmpV_innL, cmpV_innT, cmpV_ninL, cmpV_ninT, isiV, slV, revV, idxV_l, idxV_t, endF, h1, h2]
section
variable (d : Nat) (s : Sy) (ok : s.Ok) (wi : Int) (hwi : wi = s.w) (SP : PV) (g : G)
include ok hwi
theorem e5c (mi : Int) (hmi : mi = s.rows.length) : (ev tab (runF tab fns (d + 6)) 58).e [.val (.cell 0), .val SP, .val (.int wi), .val s.R, .val (bT s.right), .no, .no, .no, .no, .no, .no, .no, .no, .no, .no, .no, .no, .no, .no, .no, .no, .no, .no, .no] g x5c = some (.v (.lst ((sizesB s).map .int)), g) := by
  have hw8 := ok.w
  have hm8 := ok.m
  have h24 := r_allI (d + 5) s.rows.length mi hmi g (by omega)
  have hl := len_of hmi
  have hc : compGo (ev tab (runF tab fns (d + 6)) 57).e [.val (.cell 0), .val SP, .val (.int wi), .val s.R, .val (bT s.right), .no, .no, .no, .no, .no, .no, .no, .no, .no, .no, .no, .no, .no, .no, .no, .no, .no, .no, .no] (.bi .sum (.var 6)) (.nm 6) (some (.call 28 [.call 27 [.var 3, .var 6], .var 2])) g ((allB s.rows.length).map bT) = some (.v ((sizesB s).map .int), g) := by
    rw [compGo_filter (fun c => .int (cntB c)) (fun c => apartB (chosenB s.rows c) s.w)]
    · unfold sizesB
      rw [List.map_map]; rfl
    intro c hc
    refine ⟨_, rfl, ?_, fun _ => ?_⟩
    · have h1 := r_chosenT (d + 5) s.rows bT c g
      have h2 := r_apartL (d + 4) (chosenB s.rows c) s.w wi hwi g (by omega) (by have := chosen_le s.rows c; omega) fun r hr => by
        rw [ok.r r (chosen_sub r hr)]; exact Nat.le_refl _
      exact el5 (runF tab fns (d + 6)) wi g SP s.R (bT c) (bT s.right) _ _ h1 h2
    · have := sum_rw c
      unfold bT
      generalize rw c = X at this ⊢
      generalize cntB c = y at this ⊢
      generalize rw s.right = X4
      generalize s.R = X5
      rw [ev_bi]
      have e1 : (ev tab (runF tab fns (d + 6)) 56).e [.val (.cell 0), .val SP, .val (.int wi), .val X5, .val (.tup X4), .no, .val (.tup X), .no, .no, .no, .no, .no, .no, .no, .no, .no, .no, .no, .no, .no, .no, .no, .no, .no] g (.var 6) = some (.v (.tup X), g) := rfl
      show bd ((ev tab (runF tab fns (d + 6)) 56).e [.val (.cell 0), .val SP, .val (.int wi), .val X5, .val (.tup X4), .no, .val (.tup X), .no, .no, .no, .no, .no, .no, .no, .no, .no, .no, .no, .no, .no, .no, .no, .no, .no] g (.var 6)) _ = _
      rw [e1, bd_some, this]; rfl
  generalize (sizesB s).map PV.int = X at hc ⊢
  generalize (allB s.rows.length).map bT = X2 at hc h24
  generalize s.R = X3 at hc hl ⊢
  generalize bT s.right = X4 at hc ⊢
  have hl2 : (ev tab (runF tab fns (d + 6)) 56).e [.val (.cell 0), .val SP, .val (.int wi), .val X3, .val X4, .no, .no, .no, .no, .no, .no, .no, .no, .no, .no, .no, .no, .no, .no, .no, .no, .no, .no, .no] g (.bi .len (.var 3)) = some (.v (.int mi), g) := by
    have e1 : (ev tab (runF tab fns (d + 6)) 55).e [.val (.cell 0), .val SP, .val (.int wi), .val X3, .val X4, .no, .no, .no, .no, .no, .no, .no, .no, .no, .no, .no, .no, .no, .no, .no, .no, .no, .no, .no] g (.var 3) = some (.v X3, g) := rfl
    rw [ev_bi, e1, bd_some, hl]; rfl
  unfold x5c
  generalize E.bi .len (.var 3) = cc at hl2 ⊢
  simp [ev_b, evB1, evS1, ev_var, ev_pk, ev_cst, ev_gv, ev_gf, ev_bin, ev_neg, ev_not, ev_and, ev_or, ev_cmp, ev_isN, ev_isNN, ev_chain, ev_ite, ev_call, ev_callv, ev_bi, ev_isi, ev_mt, ev_idx, ev_sl, ev_rev, ev_tup, ev_lst, ev_comp, ev_comp2, evIt_seq, evIt_rng1, evIt_rng2, evIt_zip, evIt_enum, evL, evO, evC, evCo, bd_some, bs_some, rt_def, lf_some, nx0_some, bindT_nm, bindT_tp, bindTs_nil, bindTs_cons, wipeE, startE, setNx, setSl, slot, modV, seqV_lst, seqV_tup, zipV_ll, zipV_tt, zipV_lt, zipV_tl, enumV_lst, enumV_tup, biV_lenL, biV_lenT, biV_sumL, biV_sumT, biV_allL, biV_anyL, biV_listL, biV_listT, biV_tupL, biV_tupT, biV_intI, binV_addI, binV_subI, binV_addL, binV_addT, binV_mod, cmpV_eq, cmpV_ne, cmpV_lt, cmpV_le, cmpV_gt, cmpV_ge, cmpV_innL, cmpV_innT, cmpV_ninL, cmpV_ninT, isiV, slV, revV, idxV_l, idxV_t, endF, hl2, h24, hc]
theorem e7 (rk : Int) : (ev tab (runF tab fns (d + 6)) 59).e [.val (.cell 0), .val SP, .val (.int wi), .val s.R, .val (bT s.right), .val (.int rk), .no, .no, .no, .no, .no, .no, .no, .no, .no, .no, .no, .no, .no, .no, .no, .no, .no, .no] g x7 = some (.v (.lst ((fitsB s).map bT)), g) := by
  have hw8 := ok.w
  have h24 := r_allI (d + 5) s.w wi hwi g (by omega)
  have hc : compGo (ev tab (runF tab fns (d + 6)) 58).e [.val (.cell 0), .val SP, .val (.int wi), .val s.R, .val (bT s.right), .val (.int rk), .no, .no, .no, .no, .no, .no, .no, .no, .no, .no, .no, .no, .no, .no, .no, .no, .no, .no] (.var 8) (.nm 8) (some (.cmp .eq (.comp (.call 26 [.var 9, .var 8]) (.nm 9) (.seq (.var 3)) .none [9]) (.bi .list (.var 4)))) g ((allB s.w).map bT) = some (.v ((fitsB s).map bT), g) := by
    unfold fitsB
    refine compGo_filter bT _ fun x hx => ⟨_, rfl, ?_, fun _ => rfl⟩
    have hi : compGo (ev tab (runF tab fns (d + 6)) 56).e [.val (.cell 0), .val SP, .val (.int wi), .val s.R, .val (bT s.right), .val (.int rk), .no, .no, .val (bT x), .no, .no, .no, .no, .no, .no, .no, .no, .no, .no, .no, .no, .no, .no, .no] (.call 26 [.var 9, .var 8]) (.nm 9) none g (s.rows.map bT) = some (.v (rw (s.rows.map fun r => dotB r x)), g) := by
      rw [compGo_map fun r => bI (dotB r x)]
      · unfold rw
        rw [List.map_map]; rfl
      intro r hr
      refine ⟨_, rfl, ?_⟩
      have := r_odd (d + 5) r x g
      unfold bI
      generalize dotB r x = y at this ⊢
      generalize bT x = X1 at this ⊢
      generalize bT r = X2 at this ⊢
      generalize bT s.right = X4
      generalize s.R = X5
      simp [ev_b, evB1, evS1, ev_var, ev_pk, ev_cst, ev_gv, ev_gf, ev_bin, ev_neg, ev_not, ev_and, ev_or, ev_cmp, ev_isN, ev_isNN, ev_chain, ev_ite, ev_call, ev_callv, ev_bi, ev_isi, ev_mt, ev_idx, ev_sl, ev_rev, ev_tup, ev_lst, ev_comp, ev_comp2, evIt_seq, evIt_rng1, evIt_rng2, evIt_zip, evIt_enum, evL, evO, evC, evCo, bd_some, bs_some, rt_def, lf_some, nx0_some, bindT_nm, bindT_tp, bindTs_nil, bindTs_cons, wipeE, startE, setNx, setSl, slot, modV, seqV_lst, seqV_tup, zipV_ll, zipV_tt, zipV_lt, zipV_tl, enumV_lst, enumV_tup, biV_lenL, biV_lenT, biV_sumL, biV_sumT, biV_allL, biV_anyL, biV_listL, biV_listT, biV_tupL, biV_tupT, biV_intI, binV_addI, binV_subI, binV_addL, binV_addT, binV_mod, cmpV_eq, cmpV_ne, cmpV_lt, cmpV_le, cmpV_gt, cmpV_ge, cmpV_innL, cmpV_innT, cmpV_ninL, cmpV_ninT, isiV, slV, revV, idxV_l, idxV_t, endF, this]
    have hq : eqV (.lst (rw (s.rows.map fun r => dotB r x))) (.lst (rw s.right)) = some (decide (s.rows.map (fun r => dotB r x) = s.right)) := by
      have := eqv_bL (s.rows.map fun r => dotB r x) s.right
      unfold eqV
      rw [show (PV.lst (rw (s.rows.map fun r => dotB r x))).okd DEEP = true from okd_bL 39 _, show (PV.lst (rw s.right)).okd DEEP = true from okd_bL 39 _]
      rw [← this]
      rfl
    generalize decide (s.rows.map (fun r => dotB r x) = s.right) = y at hq ⊢
    generalize rw (s.rows.map fun r => dotB r x) = X1 at hi hq
    unfold bT at hi ⊢
    generalize rw s.right = X2 at hi hq ⊢
    generalize rw x = X3 at hi ⊢
    have hsq : seqV s.R = some (s.rows.map bT) := rfl
    unfold bT at hsq
    generalize s.R = X4 at hi hsq ⊢
    simp [ev_b, evB1, evS1, ev_var, ev_pk, ev_cst, ev_gv, ev_gf, ev_bin, ev_neg, ev_not, ev_and, ev_or, ev_cmp, ev_isN, ev_isNN, ev_chain, ev_ite, ev_call, ev_callv, ev_bi, ev_isi, ev_mt, ev_idx, ev_sl, ev_rev, ev_tup, ev_lst, ev_comp, ev_comp2, evIt_seq, evIt_rng1, evIt_rng2, evIt_zip, evIt_enum, evL, evO, evC, evCo, bd_some, bs_some, rt_def, lf_some, nx0_some, bindT_nm, bindT_tp, bindTs_nil, bindTs_cons, wipeE, startE, setNx, setSl, slot, modV, seqV_lst, seqV_tup, zipV_ll, zipV_tt, zipV_lt, zipV_tl, enumV_lst, enumV_tup, biV_lenL, biV_lenT, biV_sumL, biV_sumT, biV_allL, biV_anyL, biV_listL, biV_listT, biV_tupL, biV_tupT, biV_intI, binV_addI, binV_subI, binV_addL, binV_addT, binV_mod, cmpV_eq, cmpV_ne, cmpV_lt, cmpV_le, cmpV_gt, cmpV_ge, cmpV_innL, cmpV_innT, cmpV_ninL, cmpV_ninT, isiV, slV, revV, idxV_l, idxV_t, endF, hsq, hi, hq]
  generalize (fitsB s).map bT = X at hc ⊢
  generalize (allB s.w).map bT = X2 at hc h24
  generalize s.R = X3 at hc ⊢
  generalize bT s.right = X4 at hc ⊢
  simp [ev_b, evB1, evS1, ev_var, ev_pk, ev_cst, ev_gv, ev_gf, ev_bin, ev_neg, ev_not, ev_and, ev_or, ev_cmp, ev_isN, ev_isNN, ev_chain, ev_ite, ev_call, ev_callv, ev_bi, ev_isi, ev_mt, ev_idx, ev_sl, ev_rev, ev_tup, ev_lst, ev_comp, ev_comp2, evIt_seq, evIt_rng1, evIt_rng2, evIt_zip, evIt_enum, evL, evO, evC, evCo, bd_some, bs_some, rt_def, lf_some, nx0_some, bindT_nm, bindT_tp, bindTs_nil, bindTs_cons, wipeE, startE, setNx, setSl, slot, modV, seqV_lst, seqV_tup, zipV_ll, zipV_tt, zipV_lt, zipV_tl, enumV_lst, enumV_tup, biV_lenL, biV_lenT, biV_sumL, biV_sumT, biV_allL, biV_anyL, biV_listL, biV_listT, biV_tupL, biV_tupT, biV_intI, binV_addI, binV_subI, binV_addL, binV_addT, binV_mod, cmpV_eq, cmpV_ne, cmpV_lt, cmpV_le, cmpV_gt, cmpV_ge, cmpV_innL, cmpV_innT, cmpV_ninL, cmpV_ninT, isiV, slV, revV, idxV_l, idxV_t, endF, x7, h24, hc]
theorem e10 (rk : Int) (F : PV) (mi : Int) (hmi : mi = s.rows.length) : (ev tab (runF tab fns (d + 6)) 59).e [.val (.cell 0), .val SP, .val (.int wi), .val s.R, .val (bT s.right), .val (.int rk), .no, .val F, .no, .no, .no, .no, .no, .no, .no, .no, .no, .no, .no, .no, .no, .no, .no, .no] g x10 = some (.v (.lst ((masksB s).map bT)), g) := by
  have hw8 := ok.w
  have hm8 := ok.m
  have h24 := r_allI (d + 5) s.rows.length mi hmi g (by omega)
  have hl := len_of hmi
  have hc : compGo (ev tab (runF tab fns (d + 6)) 58).e [.val (.cell 0), .val SP, .val (.int wi), .val s.R, .val (bT s.right), .val (.int rk), .no, .val F, .no, .no, .no, .no, .no, .no, .no, .no, .no, .no, .no, .no, .no, .no, .no, .no] (.var 8) (.nm 8) (some (.and (.cmp .eq (.call 26 [.var 8, .var 4]) (.cst (.int 1))) (.cmp .nin (.cst (.int 1)) (.call 25 [.call 27 [.var 3, .var 8], .var 2])))) g ((allB s.rows.length).map bT) = some (.v ((masksB s).map bT), g) := by
    unfold masksB
    refine compGo_filter bT _ fun y hy => ⟨_, rfl, ?_, fun _ => rfl⟩
    have h1 := r_odd (d + 5) y s.right g
    have h2 := eqB (dotB y s.right)
    have h3 := r_chosenT (d + 5) s.rows bT y g
    have h4 := r_sumI (d + 5) (chosenB s.rows y) s.w wi hwi g (by omega) fun r hr => by
      rw [ok.r r (chosen_sub r hr)]; exact Nat.le_refl _
    have k2 := okds_rw DEEP (sumB (chosenB s.rows y) s.w)
    have k4 := inV_rw (sumB (chosenB s.rows y) s.w)
    generalize dotB y s.right = z at h1 h2 ⊢
    generalize (sumB (chosenB s.rows y) s.w).any id = z2 at k4 ⊢
    have h4 : runF tab fns (d + 6) 25 [.lst ((chosenB s.rows y).map bT), .int wi] g = some (.v (.tup (rw (sumB (chosenB s.rows y) s.w))), g) := h4
    generalize rw (sumB (chosenB s.rows y) s.w) = X1 at h4 k2 k4
    generalize ((chosenB s.rows y).map bT) = X2 at h4 h3
    unfold Sy.R
    generalize bT y = Y at h1 h3 ⊢
    generalize bT s.right = Y2 at h1 ⊢
    generalize s.rows.map bT = Y3 at h3 ⊢
    cases z with
    | false => simp [ev_b, evB1, evS1, ev_var, ev_pk, ev_cst, ev_gv, ev_gf, ev_bin, ev_neg, ev_not, ev_and, ev_or, ev_cmp, ev_isN, ev_isNN, ev_chain, ev_ite, ev_call, ev_callv, ev_bi, ev_isi, ev_mt, ev_idx, ev_sl, ev_rev, ev_tup, ev_lst, ev_comp, ev_comp2, evIt_seq, evIt_rng1, evIt_rng2, evIt_zip, evIt_enum, evL, evO, evC, evCo, bd_some, bs_some, rt_def, lf_some, nx0_some, bindT_nm, bindT_tp, bindTs_nil, bindTs_cons, wipeE, startE, setNx, setSl, slot, modV, seqV_lst, seqV_tup, zipV_ll, zipV_tt, zipV_lt, zipV_tl, enumV_lst, enumV_tup, biV_lenL, biV_lenT, biV_sumL, biV_sumT, biV_allL, biV_anyL, biV_listL, biV_listT, biV_tupL, biV_tupT, biV_intI, binV_addI, binV_subI, binV_addL, binV_addT, binV_mod, cmpV_eq, cmpV_ne, cmpV_lt, cmpV_le, cmpV_gt, cmpV_ge, cmpV_innL, cmpV_innT, cmpV_ninL, cmpV_ninT, isiV, slV, revV, idxV_l, idxV_t, endF, h1, h2]
    | true => simp [ev_b, evB1, evS1, ev_var, ev_pk, ev_cst, ev_gv, ev_gf, ev_bin, ev_neg, ev_not, ev_and, ev_or, ev_cmp, ev_isN, ev_isNN, ev_chain, ev_ite, ev_call, ev_callv, ev_bi, ev_isi, ev_mt, ev_idx, ev_sl, ev_rev, ev_tup, ev_lst, ev_comp, ev_comp2, evIt_seq, evIt_rng1, evIt_rng2, evIt_zip, evIt_enum, evL, evO, evC, evCo, bd_some, bs_some, rt_def, lf_some, nx0_some, bindT_nm, bindT_tp, bindTs_nil, bindTs_cons, wipeE, startE, setNx, setSl, slot, modV, seqV_lst, seqV_tup, zipV_ll, zipV_tt, zipV_lt, zipV_tl, enumV_lst, enumV_tup, biV_lenL, biV_lenT, biV_sumL, biV_sumT, biV_allL, biV_anyL, biV_listL, biV_listT, biV_tupL, biV_tupT, biV_intI, binV_addI, binV_subI, binV_addL, binV_addT, binV_mod, cmpV_eq, cmpV_ne, cmpV_lt, cmpV_le, cmpV_gt, cmpV_ge, cmpV_innL, cmpV_innT, cmpV_ninL, cmpV_ninT, isiV, slV, revV, idxV_l, idxV_t, endF, h1, h2, h3, h4, k2, k4, okI]
  generalize (masksB s).map bT = X at hc ⊢
  generalize (allB s.rows.length).map bT = X2 at hc h24
  generalize s.R = X3 at hc hl ⊢
  generalize bT s.right = X4 at hc ⊢
  have hl2 : (ev tab (runF tab fns (d + 6)) 57).e [.val (.cell 0), .val SP, .val (.int wi), .val X3, .val X4, .val (.int rk), .no, .val F, .no, .no, .no, .no, .no, .no, .no, .no, .no, .no, .no, .no, .no, .no, .no, .no] g (.bi .len (.var 3)) = some (.v (.int mi), g) := by
    have e1 : (ev tab (runF tab fns (d + 6)) 56).e [.val (.cell 0), .val SP, .val (.int wi), .val X3, .val X4, .val (.int rk), .no, .val F, .no, .no, .no, .no, .no, .no, .no, .no, .no, .no, .no, .no, .no, .no, .no, .no] g (.var 3) = some (.v X3, g) := rfl
    rw [ev_bi, e1, bd_some, hl]; rfl
  unfold x10
  generalize E.bi .len (.var 3) = cc at hl2 ⊢
  simp [ev_b, evB1, evS1, ev_var, ev_pk, ev_cst, ev_gv, ev_gf, ev_bin, ev_neg, ev_not, ev_and, ev_or, ev_cmp, ev_isN, ev_isNN, ev_chain, ev_ite, ev_call, ev_callv, ev_bi, ev_isi, ev_mt, ev_idx, ev_sl, ev_rev, ev_tup, ev_lst, ev_comp, ev_comp2, evIt_seq, evIt_rng1, evIt_rng2, evIt_zip, evIt_enum, evL, evO, evC, evCo, bd_some, bs_some, rt_def, lf_some, nx0_some, bindT_nm, bindT_tp, bindTs_nil, bindTs_cons, wipeE, startE, setNx, setSl, slot, modV, seqV_lst, seqV_tup, zipV_ll, zipV_tt, zipV_lt, zipV_tl, enumV_lst, enumV_tup, biV_lenL, biV_lenT, biV_sumL, biV_sumT, biV_allL, biV_anyL, biV_listL, biV_listT, biV_tupL, biV_tupT, biV_intI, binV_addI, binV_subI, binV_addL, binV_addT, binV_mod, cmpV_eq, cmpV_ne, cmpV_lt, cmpV_le, cmpV_gt, cmpV_ge, cmpV_innL, cmpV_innT, cmpV_ninL, cmpV_ninT, isiV, slV, revV, idxV_l, idxV_t, endF, hl2, h24, hc]
end
end NK01
end

section
set_option Elab.async false
set_option linter.all false
set_option maxRecDepth 100000
set_option maxHeartbeats 2000000
namespace NK01
open PySem Z
def T4 : T := .tp [.nm 8, .nm 14, .nm 15, .nm 16]
def s1 : S := .unp (.tp [.nm 2, .nm 3, .nm 4]) (.var 1)
def s7 : S := .par true [(false, 12, .call 13 [.var 1]), (false, 13, .call 14 [.var 1])]
section
variable (cf : CF) (s : Sy) (wi rk fi pi mi : Int) (SP F M v12 v13 : PV) (A : List PV) (g : G)
theorem s1_ok (hSP : SP = .tup [.int wi, s.R, bT s.right]) : evS1 (ev tab cf 59).e (ev tab cf 59).b (startE 24 [.cell 0, SP]) g s1 = some (.nx [.val (.cell 0), .val SP, .val (.int wi), .val s.R, .val (bT s.right), .no, .no, .no, .no, .no, .no, .no, .no, .no, .no, .no, .no, .no, .no, .no, .no, .no, .no, .no], g) := by
  have e1 : (ev tab cf 59).e (startE 24 [.cell 0, SP]) g (.var 1) = some (.v SP, g) := rfl
  unfold s1
  rw [evS1, e1, bs_some]
  have e2 : bindT (.tp [.nm 2, .nm 3, .nm 4]) SP (startE 24 [.cell 0, SP]) = some [.val (.cell 0), .val SP, .val (.int wi), .val s.R, .val (bT s.right), .no, .no, .no, .no, .no, .no, .no, .no, .no, .no, .no, .no, .no, .no, .no, .no, .no, .no, .no] := by
    rw [show bindT (.tp [.nm 2, .nm 3, .nm 4]) SP (startE 24 [.cell 0, SP]) = bindT (.tp [.nm 2, .nm 3, .nm 4]) (.tup [.int wi, s.R, bT s.right]) (startE 24 [.cell 0, SP]) from by rw [← hSP]]
    rfl
  rw [e2]
theorem e5 (hc : (ev tab cf 58).e [.val (.cell 0), .val SP, .val (.int wi), .val s.R, .val (bT s.right), .no, .no, .no, .no, .no, .no, .no, .no, .no, .no, .no, .no, .no, .no, .no, .no, .no, .no, .no] g x5c = some (.v (.lst A), g)) (hm : biV .max (.lst A) = some (.int rk)) : (ev tab cf 59).e [.val (.cell 0), .val SP, .val (.int wi), .val s.R, .val (bT s.right), .no, .no, .no, .no, .no, .no, .no, .no, .no, .no, .no, .no, .no, .no, .no, .no, .no, .no, .no] g (.bi .max x5c) = some (.v (.int rk), g) := by
  rw [ev_bi, hc, bd_some, hm]; rfl
theorem e11 (h3 : cf 3 [SP] g = some (.v (.bl true), g)) (h12 : cf 12 [SP] g = some (.v (.int rk), g)) (h24 : cf 24 [.int (wi - rk)] g = some (.v (.lst A), g)) (hf : biV .len F = some (.int fi)) (hA : biV .len (.lst A) = some (.int pi)) (hin : (((0 : Int) == fi) || (pi == fi)) = true) :
    (ev tab cf 59).e [.val (.cell 0), .val SP, .val (.int wi), .val s.R, .val (bT s.right), .val (.int rk), .no, .val F, .no, .no, .val M, .no, .no, .no, .no, .no, .no, .no, .no, .no, .no, .no, .no, .no] g x11 = some (.v (.lst [.bl true, .int rk, .bl true]), g) := by
  have hc : (ev tab cf 58).e [.val (.cell 0), .val SP, .val (.int wi), .val s.R, .val (bT s.right), .val (.int rk), .no, .val F, .no, .no, .val M, .no, .no, .no, .no, .no, .no, .no, .no, .no, .no, .no, .no, .no] g (.cmp .inn (.bi .len (.var 7)) (.tup [.cst (.int 0), .bi .len (.call 24 [.bin .sub (.var 2) (.var 5)])])) = some (.v (.bl true), g) := by
    have l1 : (ev tab cf 57).e [.val (.cell 0), .val SP, .val (.int wi), .val s.R, .val (bT s.right), .val (.int rk), .no, .val F, .no, .no, .val M, .no, .no, .no, .no, .no, .no, .no, .no, .no, .no, .no, .no, .no] g (.bi .len (.var 7)) = some (.v (.int fi), g) := by
      have e1 : (ev tab cf 56).e [.val (.cell 0), .val SP, .val (.int wi), .val s.R, .val (bT s.right), .val (.int rk), .no, .val F, .no, .no, .val M, .no, .no, .no, .no, .no, .no, .no, .no, .no, .no, .no, .no, .no] g (.var 7) = some (.v F, g) := rfl
      rw [ev_bi, e1, bd_some, hf]; rfl
    have l2 : (ev tab cf 56).e [.val (.cell 0), .val SP, .val (.int wi), .val s.R, .val (bT s.right), .val (.int rk), .no, .val F, .no, .no, .val M, .no, .no, .no, .no, .no, .no, .no, .no, .no, .no, .no, .no, .no] g (.bi .len (.call 24 [.bin .sub (.var 2) (.var 5)])) = some (.v (.int pi), g) := by
      have e1 : (ev tab cf 55).e [.val (.cell 0), .val SP, .val (.int wi), .val s.R, .val (bT s.right), .val (.int rk), .no, .val F, .no, .no, .val M, .no, .no, .no, .no, .no, .no, .no, .no, .no, .no, .no, .no, .no] g (.call 24 [.bin .sub (.var 2) (.var 5)]) = some (.v (.lst A), g) := by
        generalize s.R = X3
        generalize bT s.right = X4
        simp [ev_b, evB1, evS1, ev_var, ev_pk, ev_cst, ev_gv, ev_gf, ev_bin, ev_neg, ev_not, ev_and, ev_or, ev_cmp, ev_isN, ev_isNN, ev_chain, ev_ite, ev_call, ev_callv, ev_bi, ev_isi, ev_mt, ev_idx, ev_sl, ev_rev, ev_tup, ev_lst, ev_comp, ev_comp2, evIt_seq, evIt_rng1, evIt_rng2, evIt_zip, evIt_enum, evL, evO, evC, evCo, bd_some, bs_some, rt_def, lf_some, nx0_some, bindT_nm, bindT_tp, bindTs_nil, bindTs_cons, wipeE, startE, setNx, setSl, slot, modV, seqV_lst, seqV_tup, zipV_ll, zipV_tt, zipV_lt, zipV_tl, enumV_lst, enumV_tup, biV_lenL, biV_lenT, biV_sumL, biV_sumT, biV_allL, biV_anyL, biV_listL, biV_listT, biV_tupL, biV_tupT, biV_intI, binV_addI, binV_subI, binV_addL, binV_addT, binV_mod, cmpV_eq, cmpV_ne, cmpV_lt, cmpV_le, cmpV_gt, cmpV_ge, cmpV_innL, cmpV_innT, cmpV_ninL, cmpV_ninT, isiV, slV, revV, idxV_l, idxV_t, endF, h24]
      rw [ev_bi, e1, bd_some, hA]; rfl
    have l3 : (ev tab cf 57).e [.val (.cell 0), .val SP, .val (.int wi), .val s.R, .val (bT s.right), .val (.int rk), .no, .val F, .no, .no, .val M, .no, .no, .no, .no, .no, .no, .no, .no, .no, .no, .no, .no, .no] g (.tup [.cst (.int 0), .bi .len (.call 24 [.bin .sub (.var 2) (.var 5)])]) = some (.v (.tup [.int 0, .int pi]), g) := by
      generalize E.bi .len (.call 24 [.bin .sub (.var 2) (.var 5)]) = cc at l2 ⊢
      generalize s.R = X3 at l2 ⊢
      generalize bT s.right = X4 at l2 ⊢
      simp [ev_b, evB1, evS1, ev_var, ev_pk, ev_cst, ev_gv, ev_gf, ev_bin, ev_neg, ev_not, ev_and, ev_or, ev_cmp, ev_isN, ev_isNN, ev_chain, ev_ite, ev_call, ev_callv, ev_bi, ev_isi, ev_mt, ev_idx, ev_sl, ev_rev, ev_tup, ev_lst, ev_comp, ev_comp2, evIt_seq, evIt_rng1, evIt_rng2, evIt_zip, evIt_enum, evL, evO, evC, evCo, bd_some, bs_some, rt_def, lf_some, nx0_some, bindT_nm, bindT_tp, bindTs_nil, bindTs_cons, wipeE, startE, setNx, setSl, slot, modV, seqV_lst, seqV_tup, zipV_ll, zipV_tt, zipV_lt, zipV_tl, enumV_lst, enumV_tup, biV_lenL, biV_lenT, biV_sumL, biV_sumT, biV_allL, biV_anyL, biV_listL, biV_listT, biV_tupL, biV_tupT, biV_intI, binV_addI, binV_subI, binV_addL, binV_addT, binV_mod, cmpV_eq, cmpV_ne, cmpV_lt, cmpV_le, cmpV_gt, cmpV_ge, cmpV_innL, cmpV_innT, cmpV_ninL, cmpV_ninT, isiV, slV, revV, idxV_l, idxV_t, endF, l2]
    have hk : cmpV .inn (.int fi) (.tup [.int 0, .int pi]) = some true := by
      rw [cmpV_innT, okI, oksI, inI, hin]; rfl
    rw [ev_cmp, l1, bd_some, l3, bd_some, hk]; rfl
  unfold x11
  generalize E.cmp .inn (.bi .len (.var 7)) (.tup [.cst (.int 0), .bi .len (.call 24 [.bin .sub (.var 2) (.var 5)])]) = cc at hc ⊢
  generalize s.R = X3 at hc ⊢
  generalize bT s.right = X4 at hc ⊢
  simp [ev_b, evB1, evS1, ev_var, ev_pk, ev_cst, ev_gv, ev_gf, ev_bin, ev_neg, ev_not, ev_and, ev_or, ev_cmp, ev_isN, ev_isNN, ev_chain, ev_ite, ev_call, ev_callv, ev_bi, ev_isi, ev_mt, ev_idx, ev_sl, ev_rev, ev_tup, ev_lst, ev_comp, ev_comp2, evIt_seq, evIt_rng1, evIt_rng2, evIt_zip, evIt_enum, evL, evO, evC, evCo, bd_some, bs_some, rt_def, lf_some, nx0_some, bindT_nm, bindT_tp, bindTs_nil, bindTs_cons, wipeE, startE, setNx, setSl, slot, modV, seqV_lst, seqV_tup, zipV_ll, zipV_tt, zipV_lt, zipV_tl, enumV_lst, enumV_tup, biV_lenL, biV_lenT, biV_sumL, biV_sumT, biV_allL, biV_anyL, biV_listL, biV_listT, biV_tupL, biV_tupT, biV_intI, binV_addI, binV_subI, binV_addL, binV_addT, binV_mod, cmpV_eq, cmpV_ne, cmpV_lt, cmpV_le, cmpV_gt, cmpV_ge, cmpV_innL, cmpV_innT, cmpV_ninL, cmpV_ninT, isiV, slV, revV, idxV_l, idxV_t, endF, h3, h12, hc]
theorem e6 (hL : cf 23 [.lst [.bl true, .int rk, .bl true], .lst [.bl true, .int rk, .bl true]] g = some (.v (.bl true), g)) : (ev tab cf 59).e [.val (.cell 0), .val SP, .val (.int wi), .val s.R, .val (bT s.right), .val (.int rk), .no, .val F, .no, .no, .val M, .val (.lst [.bl true, .int rk, .bl true]), .no, .no, .no, .no, .no, .no, .no, .no, .no, .no, .no, .no] g c6 = some (.v (.bl false), g) := by
  generalize s.R = X3
  generalize bT s.right = X4
  simp [ev_b, evB1, evS1, ev_var, ev_pk, ev_cst, ev_gv, ev_gf, ev_bin, ev_neg, ev_not, ev_and, ev_or, ev_cmp, ev_isN, ev_isNN, ev_chain, ev_ite, ev_call, ev_callv, ev_bi, ev_isi, ev_mt, ev_idx, ev_sl, ev_rev, ev_tup, ev_lst, ev_comp, ev_comp2, evIt_seq, evIt_rng1, evIt_rng2, evIt_zip, evIt_enum, evL, evO, evC, evCo, bd_some, bs_some, rt_def, lf_some, nx0_some, bindT_nm, bindT_tp, bindTs_nil, bindTs_cons, wipeE, startE, setNx, setSl, slot, modV, seqV_lst, seqV_tup, zipV_ll, zipV_tt, zipV_lt, zipV_tl, enumV_lst, enumV_tup, biV_lenL, biV_lenT, biV_sumL, biV_sumT, biV_allL, biV_anyL, biV_listL, biV_listT, biV_tupL, biV_tupT, biV_intI, binV_addI, binV_subI, binV_addL, binV_addT, binV_mod, cmpV_eq, cmpV_ne, cmpV_lt, cmpV_le, cmpV_gt, cmpV_ge, cmpV_innL, cmpV_innT, cmpV_ninL, cmpV_ninT, isiV, slV, revV, idxV_l, idxV_t, endF, c6, hL]
theorem s7_ok (L : PV) (h1 : cf 13 [SP] g = some (.v v12, g)) (h2 : cf 14 [SP] g = some (.v v13, g)) : evS1 (ev tab cf 59).e (ev tab cf 59).b [.val (.cell 0), .val SP, .val (.int wi), .val s.R, .val (bT s.right), .val (.int rk), .no, .val F, .no, .no, .val M, .val L, .no, .no, .no, .no, .no, .no, .no, .no, .no, .no, .no, .no] g s7 = some (.nx [.val (.cell 0), .val SP, .val (.int wi), .val s.R, .val (bT s.right), .val (.int rk), .no, .val F, .no, .no, .val M, .val L, .val v12, .val v13, .no, .no, .no, .no, .no, .no, .no, .no, .no, .no], g) := by
  generalize s.R = X3
  generalize bT s.right = X4
  simp [ev_b, evB1, evS1, ev_var, ev_pk, ev_cst, ev_gv, ev_gf, ev_bin, ev_neg, ev_not, ev_and, ev_or, ev_cmp, ev_isN, ev_isNN, ev_chain, ev_ite, ev_call, ev_callv, ev_bi, ev_isi, ev_mt, ev_idx, ev_sl, ev_rev, ev_tup, ev_lst, ev_comp, ev_comp2, evIt_seq, evIt_rng1, evIt_rng2, evIt_zip, evIt_enum, evL, evO, evC, evCo, bd_some, bs_some, rt_def, lf_some, nx0_some, bindT_nm, bindT_tp, bindTs_nil, bindTs_cons, wipeE, startE, setNx, setSl, slot, modV, seqV_lst, seqV_tup, zipV_ll, zipV_tt, zipV_lt, zipV_tl, enumV_lst, enumV_tup, biV_lenL, biV_lenT, biV_sumL, biV_sumT, biV_allL, biV_anyL, biV_listL, biV_listT, biV_tupL, biV_tupT, biV_intI, binV_addI, binV_subI, binV_addL, binV_addT, binV_mod, cmpV_eq, cmpV_ne, cmpV_lt, cmpV_le, cmpV_gt, cmpV_ge, cmpV_innL, cmpV_innT, cmpV_ninL, cmpV_ninT, isiV, slV, revV, idxV_l, idxV_t, endF, s7, h1, h2, setAll]
theorem e8a (L : PV) (x : List PV) (hF : eqV F (.lst []) = some false) (hM : eqV M (.lst []) = some true) : (ev tab cf 59).e [.val (.cell 0), .val SP, .val (.int wi), .val s.R, .val (bT s.right), .val (.int rk), .no, .val F, .no, .no, .val M, .val L, .val (.tup x), .val .non, .no, .no, .no, .no, .no, .no, .no, .no, .no, .no] g c8 = some (.v (.bl false), g) := by
  generalize s.R = X3
  generalize bT s.right = X4
  simp [ev_b, evB1, evS1, ev_var, ev_pk, ev_cst, ev_gv, ev_gf, ev_bin, ev_neg, ev_not, ev_and, ev_or, ev_cmp, ev_isN, ev_isNN, ev_chain, ev_ite, ev_call, ev_callv, ev_bi, ev_isi, ev_mt, ev_idx, ev_sl, ev_rev, ev_tup, ev_lst, ev_comp, ev_comp2, evIt_seq, evIt_rng1, evIt_rng2, evIt_zip, evIt_enum, evL, evO, evC, evCo, bd_some, bs_some, rt_def, lf_some, nx0_some, bindT_nm, bindT_tp, bindTs_nil, bindTs_cons, wipeE, startE, setNx, setSl, slot, modV, seqV_lst, seqV_tup, zipV_ll, zipV_tt, zipV_lt, zipV_tl, enumV_lst, enumV_tup, biV_lenL, biV_lenT, biV_sumL, biV_sumT, biV_allL, biV_anyL, biV_listL, biV_listT, biV_tupL, biV_tupT, biV_intI, binV_addI, binV_subI, binV_addL, binV_addT, binV_mod, cmpV_eq, cmpV_ne, cmpV_lt, cmpV_le, cmpV_gt, cmpV_ge, cmpV_innL, cmpV_innT, cmpV_ninL, cmpV_ninT, isiV, slV, revV, idxV_l, idxV_t, endF, c8, hF, hM, eqBB]
theorem e8b (L : PV) (x : List PV) (hF : eqV F (.lst []) = some true) (hM : eqV M (.lst []) = some false) : (ev tab cf 59).e [.val (.cell 0), .val SP, .val (.int wi), .val s.R, .val (bT s.right), .val (.int rk), .no, .val F, .no, .no, .val M, .val L, .val .non, .val (.tup x), .no, .no, .no, .no, .no, .no, .no, .no, .no, .no] g c8 = some (.v (.bl false), g) := by
  generalize s.R = X3
  generalize bT s.right = X4
  simp [ev_b, evB1, evS1, ev_var, ev_pk, ev_cst, ev_gv, ev_gf, ev_bin, ev_neg, ev_not, ev_and, ev_or, ev_cmp, ev_isN, ev_isNN, ev_chain, ev_ite, ev_call, ev_callv, ev_bi, ev_isi, ev_mt, ev_idx, ev_sl, ev_rev, ev_tup, ev_lst, ev_comp, ev_comp2, evIt_seq, evIt_rng1, evIt_rng2, evIt_zip, evIt_enum, evL, evO, evC, evCo, bd_some, bs_some, rt_def, lf_some, nx0_some, bindT_nm, bindT_tp, bindTs_nil, bindTs_cons, wipeE, startE, setNx, setSl, slot, modV, seqV_lst, seqV_tup, zipV_ll, zipV_tt, zipV_lt, zipV_tl, enumV_lst, enumV_tup, biV_lenL, biV_lenT, biV_sumL, biV_sumT, biV_allL, biV_anyL, biV_listL, biV_listT, biV_tupL, biV_tupT, biV_intI, binV_addI, binV_subI, binV_addL, binV_addT, binV_mod, cmpV_eq, cmpV_ne, cmpV_lt, cmpV_le, cmpV_gt, cmpV_ge, cmpV_innL, cmpV_innT, cmpV_ninL, cmpV_ninT, isiV, slV, revV, idxV_l, idxV_t, endF, c8, hF, hM, eqBB]
theorem e9 (L : PV) (hm : biV .len s.R = some (.int mi)) : (ev tab cf 59).e [.val (.cell 0), .val SP, .val (.int wi), .val s.R, .val (bT s.right), .val (.int rk), .no, .val F, .no, .no, .val M, .val L, .val v12, .val v13, .no, .no, .no, .no, .no, .no, .no, .no, .no, .no] g it9 = some (.v (.tup [.tup [v12, F, .fn 15, .int wi], .tup [v13, M, .fn 16, .int mi]]), g) := by
  have l1 : (ev tab cf 57).e [.val (.cell 0), .val SP, .val (.int wi), .val s.R, .val (bT s.right), .val (.int rk), .no, .val F, .no, .no, .val M, .val L, .val v12, .val v13, .no, .no, .no, .no, .no, .no, .no, .no, .no, .no] g (.bi .len (.var 3)) = some (.v (.int mi), g) := by
    have e1 : (ev tab cf 56).e [.val (.cell 0), .val SP, .val (.int wi), .val s.R, .val (bT s.right), .val (.int rk), .no, .val F, .no, .no, .val M, .val L, .val v12, .val v13, .no, .no, .no, .no, .no, .no, .no, .no, .no, .no] g (.var 3) = some (.v s.R, g) := rfl
    rw [ev_bi, e1, bd_some, hm]; rfl
  unfold it9
  generalize E.bi .len (.var 3) = cc at l1 ⊢
  generalize s.R = X3 at l1 ⊢
  generalize bT s.right = X4 at l1 ⊢
  simp [ev_b, evB1, evS1, ev_var, ev_pk, ev_cst, ev_gv, ev_gf, ev_bin, ev_neg, ev_not, ev_and, ev_or, ev_cmp, ev_isN, ev_isNN, ev_chain, ev_ite, ev_call, ev_callv, ev_bi, ev_isi, ev_mt, ev_idx, ev_sl, ev_rev, ev_tup, ev_lst, ev_comp, ev_comp2, evIt_seq, evIt_rng1, evIt_rng2, evIt_zip, evIt_enum, evL, evO, evC, evCo, bd_some, bs_some, rt_def, lf_some, nx0_some, bindT_nm, bindT_tp, bindTs_nil, bindTs_cons, wipeE, startE, setNx, setSl, slot, modV, seqV_lst, seqV_tup, zipV_ll, zipV_tt, zipV_lt, zipV_tl, enumV_lst, enumV_tup, biV_lenL, biV_lenT, biV_sumL, biV_sumT, biV_allL, biV_anyL, biV_listL, biV_listT, biV_tupL, biV_tupT, biV_intI, binV_addI, binV_subI, binV_addL, binV_addT, binV_mod, cmpV_eq, cmpV_ne, cmpV_lt, cmpV_le, cmpV_gt, cmpV_ge, cmpV_innL, cmpV_innT, cmpV_ninL, cmpV_ninT, isiV, slV, revV, idxV_l, idxV_t, endF, l1]
end
theorem for_2 {b : BV} {t : T} {body : List S} {ρ ρ1 ρ2 ρ3 ρ4 : Z.Env} {g g1 g2 : G} {x y : PV} (h1 : bindT t x ρ = some ρ1) (h2 : b ρ1 g body = some (.nx ρ2, g1)) (h3 : bindT t y ρ2 = some ρ3) (h4 : b ρ3 g1 body = some (.nx ρ4, g2)) : forGo b t body ρ g [x, y] = some (.nx ρ4, g2) := by
  rw [forGo, h1]
  simp only [h2]
  rw [forGo, h3]
  simp only [h4]
  rfl
theorem s9_ok (cf : CF) (s : Sy) (wi rk mi : Int) (SP F M v12 v13 L : PV) (g g1 g2 : G) (ρ2 ρ4 : Z.Env) (hm : biV .len s.R = some (.int mi)) (h2 : (ev tab cf 59).b [.val (.cell 0), .val SP, .val (.int wi), .val s.R, .val (bT s.right), .val (.int rk), .no, .val F, .val v12, .no, .val M, .val L, .val v12, .val v13, .val F, .val (.fn 15), .val (.int wi), .no, .no, .no, .no, .no, .no, .no] g tB = some (.nx ρ2, g1)) (ρ3 : Z.Env) (h3 : bindT T4 (.tup [v13, M, .fn 16, .int mi]) ρ2 = some ρ3) (h4 : (ev tab cf 59).b ρ3 g1 tB = some (.nx ρ4, g2)) :
    evS1 (ev tab cf 59).e (ev tab cf 59).b [.val (.cell 0), .val SP, .val (.int wi), .val s.R, .val (bT s.right), .val (.int rk), .no, .val F, .no, .no, .val M, .val L, .val v12, .val v13, .no, .no, .no, .no, .no, .no, .no, .no, .no, .no] g (.for T4 (.seq it9) tB) = some (.nx ρ4, g2) := by
  have q := e9 cf s wi rk mi SP F M v12 v13 g L hm
  rw [evS1, evIt, q, bd_some, seqV_tup, lf_some, bs_some]
  exact for_2 rfl h2 h3 h4
end NK01
end

section
set_option Elab.async false
set_option linter.all false
set_option maxRecDepth 100000
set_option maxHeartbeats 2000000
namespace NK01
open PySem Z
structure OkQ (v : PV) : Prop where
  t : top v = true
  s : ∀ l, v = .tup l → ∀ x ∈ l, OkV x
theorem addT {x y : List PV} (h : x.length + y.length ≤ 1000) : binV .add (.tup x) (.tup y) = some (.tup (x ++ y)) := by
  rw [binV_addT, if_pos]
  exact Nat.le_trans h (by decide)
def x17 : E := .lst [.var 20, .rev (.var 20), .sl (.var 20) (.some (.cst (.int 1))) .none, .bin .add (.var 20) (.tup [.bin .mul (.tup [.cst (.int 0)]) (.var 2)]), .bi .list (.var 20), .cst .non, .tup []]
def s12p : S := .par true [(false, 21, .call 20 [.var 0, .bi .len (.var 20)]), (false, 22, .idx (.var 20) (.call 20 [.var 0, .bi .len (.var 20)]))]
def x12 : E := .tup [.bin .mul (.tup [.cst (.int 0)]) (.var 2), .var 22, .call 25 [.lst [.idx (.var 20) (.var 21), .var 22], .var 2], .bi .list (.idx (.var 20) (.var 21)), .bin .mul (.tup [.cst (.int 1)]) (.var 2), .bin .add (.idx (.var 20) (.var 21)) (.tup [.cst (.int 0)])]
def b12 : List S := [.app 17 (.bin .add (.bin .add (.sl (.var 20) .none (.some (.var 21))) (.tup [.var 9])) (.sl (.var 20) (.some (.bin .add (.var 21) (.cst (.int 1)))) .none))]
def s12 : S := .ite (.cmp .ne (.var 20) (.tup [])) [s12p, .for (.nm 9) (.seq x12) b12] []
def s13 : S := .set false 23 (.comp (.call 31 [.var 1, .var 5, .var 19]) (.nm 19) (.seq (.pk 17)) .none [19])
def s14 : S := .ret (.and (.idx (.var 23) (.cst (.int 0))) (.call 23 [.comp (.call 18 [.var 1, .var 19]) (.nm 19) (.seq (.pk 17)) .none [19], .var 23]))
section
variable (cf : CF) (wi rk : Int) (SP : PV) (u3 u4 u6 u7 u8 u9 u10 u11 u12 u13 u14 u15 u16 u17 u18 u19 u21 u22 u23 : Sl) (q : List PV) (g : G)
theorem e17 (z : PV) (hz : binV .mul (.tup [.int 0]) (.int wi) = some z) (hq : q.length ≤ 900) : (ev tab cf 59).e [.val (.cell 0), .val SP, .val (.int wi), u3, u4, .val (.int rk), u6, u7, u8, u9, u10, u11, u12, u13, u14, u15, u16, u17, u18, u19, .val (.tup q), u21, u22, u23] g x17 = some (.v (.lst [.tup q, .tup q.reverse, .tup (q.drop 1), .tup (q ++ [z]), .lst q, .non, .tup []]), g) := by
  have h1 : Z.cut q (some 1) none = q.drop 1 := cut_drop q 1
  have h2 := addT (x := q) (y := [z]) (by simp only [List.length_cons, List.length_nil]; omega)
  simp [ev_b, evB1, evS1, ev_var, ev_pk, ev_cst, ev_gv, ev_gf, ev_bin, ev_neg, ev_not, ev_and, ev_or, ev_cmp, ev_isN, ev_isNN, ev_chain, ev_ite, ev_call, ev_callv, ev_bi, ev_isi, ev_mt, ev_idx, ev_sl, ev_rev, ev_tup, ev_lst, ev_comp, ev_comp2, evIt_seq, evIt_rng1, evIt_rng2, evIt_zip, evIt_enum, evL, evO, evC, evCo, bd_some, bs_some, rt_def, lf_some, nx0_some, bindT_nm, bindT_tp, bindTs_nil, bindTs_cons, wipeE, startE, setNx, setSl, slot, modV, seqV_lst, seqV_tup, zipV_ll, zipV_tt, zipV_lt, zipV_tl, enumV_lst, enumV_tup, biV_lenL, biV_lenT, biV_sumL, biV_sumT, biV_allL, biV_anyL, biV_listL, biV_listT, biV_tupL, biV_tupT, biV_intI, binV_addI, binV_subI, binV_addL, binV_addT, binV_mod, cmpV_eq, cmpV_ne, cmpV_lt, cmpV_le, cmpV_gt, cmpV_ge, cmpV_innL, cmpV_innT, cmpV_ninL, cmpV_ninT, isiV, slV, revV, idxV_l, idxV_t, endF, x17, hz, h1, h2]
theorem b12_ok (O : List PV) (r : PV) (at_ : Nat) (ai : Int) (hai : ai = at_) (hq : q.length ≤ 400) (hO : O.length ≤ 900) : (ev tab cf 58).b [.val (.cell 0), .val SP, .val (.int wi), u3, u4, .val (.int rk), u6, u7, u8, .val r, u10, u11, u12, u13, u14, u15, u16, .own (.lst O), u18, u19, .val (.tup q), .val (.int ai), u22, u23] g b12 = some (.nx [.val (.cell 0), .val SP, .val (.int wi), u3, u4, .val (.int rk), u6, u7, u8, .val r, u10, u11, u12, u13, u14, u15, u16, .own (.lst (O ++ [.tup (q.take at_ ++ [r] ++ q.drop (at_ + 1))])), u18, u19, .val (.tup q), .val (.int ai), u22, u23], g) := by
  have h1 : Z.cut q none (some ai) = q.take at_ := by rw [hai]; exact cut_take q at_
  have h2 : Z.cut q (some (ai + 1)) none = q.drop (at_ + 1) := by
    have := cut_drop q (at_ + 1)
    rw [show ((at_ + 1 : Nat) : Int) = ai + 1 from by omega] at this
    exact this
  have l1 : (q.take at_).length ≤ 400 := by rw [List.length_take]; omega
  have l2 : (q.drop (at_ + 1)).length ≤ 400 := by rw [List.length_drop]; omega
  have a1 := addT (x := q.take at_) (y := [r]) (by simp only [List.length_cons, List.length_nil]; omega)
  have a2 := addT (x := q.take at_ ++ [r]) (y := q.drop (at_ + 1)) (by simp only [List.length_append, List.length_cons, List.length_nil]; omega)
  have a3 := app_ok (l := O) (v := .tup (q.take at_ ++ [r] ++ q.drop (at_ + 1))) (Nat.lt_of_le_of_lt hO (by decide))
  generalize q.take at_ ++ [r] ++ q.drop (at_ + 1) = X3 at a2 a3 ⊢
  generalize q.take at_ ++ [r] = X2 at a1 a2
  generalize q.take at_ = X1 at h1 a1
  generalize q.drop (at_ + 1) = X4 at h2 a2
  generalize O ++ [.tup X3] = X5 at a3 ⊢
  simp [ev_b, evB1, evS1, ev_var, ev_pk, ev_cst, ev_gv, ev_gf, ev_bin, ev_neg, ev_not, ev_and, ev_or, ev_cmp, ev_isN, ev_isNN, ev_chain, ev_ite, ev_call, ev_callv, ev_bi, ev_isi, ev_mt, ev_idx, ev_sl, ev_rev, ev_tup, ev_lst, ev_comp, ev_comp2, evIt_seq, evIt_rng1, evIt_rng2, evIt_zip, evIt_enum, evL, evO, evC, evCo, bd_some, bs_some, rt_def, lf_some, nx0_some, bindT_nm, bindT_tp, bindTs_nil, bindTs_cons, wipeE, startE, setNx, setSl, slot, modV, seqV_lst, seqV_tup, zipV_ll, zipV_tt, zipV_lt, zipV_tl, enumV_lst, enumV_tup, biV_lenL, biV_lenT, biV_sumL, biV_sumT, biV_allL, biV_anyL, biV_listL, biV_listT, biV_tupL, biV_tupT, biV_intI, binV_addI, binV_subI, binV_addL, binV_addT, binV_mod, cmpV_eq, cmpV_ne, cmpV_lt, cmpV_le, cmpV_gt, cmpV_ge, cmpV_innL, cmpV_innT, cmpV_ninL, cmpV_ninT, isiV, slV, revV, idxV_l, idxV_t, endF, b12, h1, h2, a1, a2, a3]
theorem b12_loop (at_ : Nat) (ai : Int) (hai : ai = at_) (hq : q.length ≤ 400) (hqk : ∀ x ∈ q, OkV x) : ∀ (l O : List PV) (u9 : Sl), O.length + l.length ≤ 900 → (∀ x ∈ l, OkV x) → (∀ o ∈ O, OkQ o) → ∃ O' u9', (∀ o ∈ O ++ O', OkQ o) ∧ (O ++ O').length ≤ 900 ∧
    forGo (ev tab cf 58).b (.nm 9) b12 [.val (.cell 0), .val SP, .val (.int wi), u3, u4, .val (.int rk), u6, u7, u8, u9, u10, u11, u12, u13, u14, u15, u16, .own (.lst O), u18, u19, .val (.tup q), .val (.int ai), u22, u23] g l = some (.nx [.val (.cell 0), .val SP, .val (.int wi), u3, u4, .val (.int rk), u6, u7, u8, u9', u10, u11, u12, u13, u14, u15, u16, .own (.lst (O ++ O')), u18, u19, .val (.tup q), .val (.int ai), u22, u23], g)
  | [], O, u9, hl, _, hO => ⟨[], u9, by rw [List.append_nil]; exact hO, by rw [List.append_nil]; simpa using hl, by rw [List.append_nil]; rfl⟩
  | x :: l, O, u9, hl, hx, hO => by
    rw [List.length_cons] at hl
    have h1 := b12_ok cf wi rk SP u3 u4 u6 u7 u8 u10 u11 u12 u13 u14 u15 u16 u18 u19 u22 u23 q g O x at_ ai hai hq (by omega)
    obtain ⟨O', u9', p1, p2, p3⟩ := b12_loop at_ ai hai hq hqk l (O ++ [.tup (q.take at_ ++ [x] ++ q.drop (at_ + 1))]) (.val x) (by rw [List.length_append, List.length_singleton]; omega) (fun y hy => hx y (List.mem_cons_of_mem _ hy)) fun o ho => by
      rcases List.mem_append.mp ho with ho | ho
      · exact hO o ho
      · rw [List.mem_singleton.mp ho]
        refine ⟨rfl, fun l hl y hy => ?_⟩
        cases hl
        rcases List.mem_append.mp hy with hy | hy
        · rcases List.mem_append.mp hy with hy | hy
          · exact hqk y (List.mem_of_mem_take hy)
          · rw [List.mem_singleton.mp hy]; exact hx x List.mem_cons_self
        · exact hqk y (List.mem_of_mem_drop hy)
    refine ⟨.tup (q.take at_ ++ [x] ++ q.drop (at_ + 1)) :: O', u9', ?_, ?_, ?_⟩
    · intro o ho
      exact p1 o (by rw [List.append_assoc]; exact ho)
    · rw [List.append_assoc] at p2; exact p2
    · have hb : bindT (.nm 9) x [.val (.cell 0), .val SP, .val (.int wi), u3, u4, .val (.int rk), u6, u7, u8, u9, u10, u11, u12, u13, u14, u15, u16, .own (.lst O), u18, u19, .val (.tup q), .val (.int ai), u22, u23] = some [.val (.cell 0), .val SP, .val (.int wi), u3, u4, .val (.int rk), u6, u7, u8, .val x, u10, u11, u12, u13, u14, u15, u16, .own (.lst O), u18, u19, .val (.tup q), .val (.int ai), u22, u23] := rfl
      rw [forGo, hb]
      simp only [h1]
      rw [p3, List.append_assoc]; rfl
theorem s12p_ok (O : List PV) (g1 g2 : G) (li ai oi : Int) (y : PV) (hl : biV .len (.tup q) = some (.int li)) (h1 : cf 20 [.cell 0, .int li] g = some (.v (.int ai), g1)) (h2 : cf 20 [.cell 0, .int li] g1 = some (.v (.int oi), g2)) (hy : atI q oi = some y) : evS1 (ev tab cf 58).e (ev tab cf 58).b [.val (.cell 0), .val SP, .val (.int wi), u3, u4, .val (.int rk), u6, u7, u8, u9, u10, u11, u12, u13, u14, u15, u16, .own (.lst O), u18, u19, .val (.tup q), u21, u22, u23] g s12p = some (.nx [.val (.cell 0), .val SP, .val (.int wi), u3, u4, .val (.int rk), u6, u7, u8, u9, u10, u11, u12, u13, u14, u15, u16, .own (.lst O), u18, u19, .val (.tup q), .val (.int ai), .val y, u23], g2) := by
  have l1 : ∀ n g, (ev tab cf (n + 2)).e [.val (.cell 0), .val SP, .val (.int wi), u3, u4, .val (.int rk), u6, u7, u8, u9, u10, u11, u12, u13, u14, u15, u16, .own (.lst O), u18, u19, .val (.tup q), u21, u22, u23] g (.bi .len (.var 20)) = some (.v (.int li), g) := fun n g => by
    have e1 : (ev tab cf (n + 1)).e [.val (.cell 0), .val SP, .val (.int wi), u3, u4, .val (.int rk), u6, u7, u8, u9, u10, u11, u12, u13, u14, u15, u16, .own (.lst O), u18, u19, .val (.tup q), u21, u22, u23] g (.var 20) = some (.v (.tup q), g) := rfl
    rw [ev_bi, e1, bd_some, hl]; rfl
  unfold s12p
  generalize E.bi .len (.var 20) = cc at l1 ⊢
  simp [ev_b, evB1, evS1, ev_var, ev_pk, ev_cst, ev_gv, ev_gf, ev_bin, ev_neg, ev_not, ev_and, ev_or, ev_cmp, ev_isN, ev_isNN, ev_chain, ev_ite, ev_call, ev_callv, ev_bi, ev_isi, ev_mt, ev_idx, ev_sl, ev_rev, ev_tup, ev_lst, ev_comp, ev_comp2, evIt_seq, evIt_rng1, evIt_rng2, evIt_zip, evIt_enum, evL, evO, evC, evCo, bd_some, bs_some, rt_def, lf_some, nx0_some, bindT_nm, bindT_tp, bindTs_nil, bindTs_cons, wipeE, startE, setNx, setSl, slot, modV, seqV_lst, seqV_tup, zipV_ll, zipV_tt, zipV_lt, zipV_tl, enumV_lst, enumV_tup, biV_lenL, biV_lenT, biV_sumL, biV_sumT, biV_allL, biV_anyL, biV_listL, biV_listT, biV_tupL, biV_tupT, biV_intI, binV_addI, binV_subI, binV_addL, binV_addT, binV_mod, cmpV_eq, cmpV_ne, cmpV_lt, cmpV_le, cmpV_gt, cmpV_ge, cmpV_innL, cmpV_innT, cmpV_ninL, cmpV_ninT, isiV, slV, revV, idxV_l, idxV_t, endF, l1, h1, h2, hy, setAll]
theorem x12_ok (O : List PV) (ai : Int) (x y : List PV) (z0 z1 z2 : PV) (hx : atI q ai = some (.tup x)) (h25 : cf 25 [.lst [.tup x, .tup y], .int wi] g = some (.v z2, g)) (h0 : binV .mul (.tup [.int 0]) (.int wi) = some z0) (h1 : binV .mul (.tup [.int 1]) (.int wi) = some z1) (hl : x.length ≤ 900) : (ev tab cf 58).e [.val (.cell 0), .val SP, .val (.int wi), u3, u4, .val (.int rk), u6, u7, u8, u9, u10, u11, u12, u13, u14, u15, u16, .own (.lst O), u18, u19, .val (.tup q), .val (.int ai), .val (.tup y), u23] g x12 = some (.v (.tup [z0, .tup y, z2, .lst x, z1, .tup (x ++ [.int 0])]), g) := by
  have a := addT (x := x) (y := [.int 0]) (by simp only [List.length_cons, List.length_nil]; omega)
  simp [ev_b, evB1, evS1, ev_var, ev_pk, ev_cst, ev_gv, ev_gf, ev_bin, ev_neg, ev_not, ev_and, ev_or, ev_cmp, ev_isN, ev_isNN, ev_chain, ev_ite, ev_call, ev_callv, ev_bi, ev_isi, ev_mt, ev_idx, ev_sl, ev_rev, ev_tup, ev_lst, ev_comp, ev_comp2, evIt_seq, evIt_rng1, evIt_rng2, evIt_zip, evIt_enum, evL, evO, evC, evCo, bd_some, bs_some, rt_def, lf_some, nx0_some, bindT_nm, bindT_tp, bindTs_nil, bindTs_cons, wipeE, startE, setNx, setSl, slot, modV, seqV_lst, seqV_tup, zipV_ll, zipV_tt, zipV_lt, zipV_tl, enumV_lst, enumV_tup, biV_lenL, biV_lenT, biV_sumL, biV_sumT, biV_allL, biV_anyL, biV_listL, biV_listT, biV_tupL, biV_tupT, biV_intI, binV_addI, binV_subI, binV_addL, binV_addT, binV_mod, cmpV_eq, cmpV_ne, cmpV_lt, cmpV_le, cmpV_gt, cmpV_ge, cmpV_innL, cmpV_innT, cmpV_ninL, cmpV_ninT, isiV, slV, revV, idxV_l, idxV_t, endF, x12, hx, h25, h0, h1, a]
theorem tail_ok (O : List PV) (J : PV → Bool) (hO : ∀ o ∈ .tup q :: O, OkQ o) (h31 : ∀ o, OkQ o → cf 31 [SP, .int rk, o] g = some (.v (.bl (J o)), g)) (h18 : ∀ o, OkQ o → cf 18 [SP, o] g = some (.v (.bl (J o)), g)) (hJ : J (.tup q) = true) (hL : ∀ l : List Bool, cf 23 [.lst (l.map .bl), .lst (l.map .bl)] g = some (.v (.bl true), g)) :
    (ev tab cf 60).b [.val (.cell 0), .val SP, .val (.int wi), u3, u4, .val (.int rk), u6, u7, u8, u9, u10, u11, u12, u13, u14, u15, u16, .own (.lst (.tup q :: O)), u18, u19, .val (.tup q), u21, u22, u23] g [s13, s14] = some (.rt (.bl true), g) := by
  have q1 := compGo_map (e := (ev tab cf 58).e) (ρ := [.val (.cell 0), .val SP, .val (.int wi), u3, u4, .val (.int rk), u6, u7, u8, u9, u10, u11, u12, u13, u14, u15, u16, .own (.lst (.tup q :: O)), u18, .no, .val (.tup q), u21, u22, u23]) (elt := .call 31 [.var 1, .var 5, .var 19]) (t := .nm 19) (g := g) (mk := fun x => x) (fun o => .bl (J o)) (l := .tup q :: O) fun o ho => ⟨_, rfl, (by
    have := h31 o (hO o ho)
    generalize J o = y at this ⊢
    generalize PV.tup q :: O = OO
    simp [ev_b, evB1, evS1, ev_var, ev_pk, ev_cst, ev_gv, ev_gf, ev_bin, ev_neg, ev_not, ev_and, ev_or, ev_cmp, ev_isN, ev_isNN, ev_chain, ev_ite, ev_call, ev_callv, ev_bi, ev_isi, ev_mt, ev_idx, ev_sl, ev_rev, ev_tup, ev_lst, ev_comp, ev_comp2, evIt_seq, evIt_rng1, evIt_rng2, evIt_zip, evIt_enum, evL, evO, evC, evCo, bd_some, bs_some, rt_def, lf_some, nx0_some, bindT_nm, bindT_tp, bindTs_nil, bindTs_cons, wipeE, startE, setNx, setSl, slot, modV, seqV_lst, seqV_tup, zipV_ll, zipV_tt, zipV_lt, zipV_tl, enumV_lst, enumV_tup, biV_lenL, biV_lenT, biV_sumL, biV_sumT, biV_allL, biV_anyL, biV_listL, biV_listT, biV_tupL, biV_tupT, biV_intI, binV_addI, binV_subI, binV_addL, binV_addT, binV_mod, cmpV_eq, cmpV_ne, cmpV_lt, cmpV_le, cmpV_gt, cmpV_ge, cmpV_innL, cmpV_innT, cmpV_ninL, cmpV_ninT, isiV, slV, revV, idxV_l, idxV_t, endF, this])⟩
  have q2 := compGo_map (e := (ev tab cf 56).e) (ρ := [.val (.cell 0), .val SP, .val (.int wi), u3, u4, .val (.int rk), u6, u7, u8, u9, u10, u11, u12, u13, u14, u15, u16, .own (.lst (.tup q :: O)), u18, .no, .val (.tup q), u21, u22, .val (.lst ((.tup q :: O).map fun o => .bl (J o)))]) (elt := .call 18 [.var 1, .var 19]) (t := .nm 19) (g := g) (mk := fun x => x) (fun o => .bl (J o)) (l := .tup q :: O) fun o ho => ⟨_, rfl, (by
    have := h18 o (hO o ho)
    generalize (PV.tup q :: O).map (fun o => PV.bl (J o)) = XX
    generalize J o = y at this ⊢
    generalize PV.tup q :: O = OO
    simp [ev_b, evB1, evS1, ev_var, ev_pk, ev_cst, ev_gv, ev_gf, ev_bin, ev_neg, ev_not, ev_and, ev_or, ev_cmp, ev_isN, ev_isNN, ev_chain, ev_ite, ev_call, ev_callv, ev_bi, ev_isi, ev_mt, ev_idx, ev_sl, ev_rev, ev_tup, ev_lst, ev_comp, ev_comp2, evIt_seq, evIt_rng1, evIt_rng2, evIt_zip, evIt_enum, evL, evO, evC, evCo, bd_some, bs_some, rt_def, lf_some, nx0_some, bindT_nm, bindT_tp, bindTs_nil, bindTs_cons, wipeE, startE, setNx, setSl, slot, modV, seqV_lst, seqV_tup, zipV_ll, zipV_tt, zipV_lt, zipV_tl, enumV_lst, enumV_tup, biV_lenL, biV_lenT, biV_sumL, biV_sumT, biV_allL, biV_anyL, biV_listL, biV_listT, biV_tupL, biV_tupT, biV_intI, binV_addI, binV_subI, binV_addL, binV_addT, binV_mod, cmpV_eq, cmpV_ne, cmpV_lt, cmpV_le, cmpV_gt, cmpV_ge, cmpV_innL, cmpV_innT, cmpV_ninL, cmpV_ninT, isiV, slV, revV, idxV_l, idxV_t, endF, this])⟩
  rw [List.map_id'] at q1 q2
  have hh : atI ((.tup q :: O).map fun o => PV.bl (J o)) 0 = some (.bl true) := by
    rw [List.map_cons, hJ]; exact atI_zero
  have hL := hL ((.tup q :: O).map J)
  rw [List.map_map] at hL
  rw [show (PV.bl ∘ J) = fun o => PV.bl (J o) from rfl] at hL
  generalize ((.tup q :: O).map fun o => PV.bl (J o)) = XX at q1 q2 hh hL
  generalize PV.tup q :: O = OO at q1 q2 ⊢
  simp [ev_b, evB1, evS1, ev_var, ev_pk, ev_cst, ev_gv, ev_gf, ev_bin, ev_neg, ev_not, ev_and, ev_or, ev_cmp, ev_isN, ev_isNN, ev_chain, ev_ite, ev_call, ev_callv, ev_bi, ev_isi, ev_mt, ev_idx, ev_sl, ev_rev, ev_tup, ev_lst, ev_comp, ev_comp2, evIt_seq, evIt_rng1, evIt_rng2, evIt_zip, evIt_enum, evL, evO, evC, evCo, bd_some, bs_some, rt_def, lf_some, nx0_some, bindT_nm, bindT_tp, bindTs_nil, bindTs_cons, wipeE, startE, setNx, setSl, slot, modV, seqV_lst, seqV_tup, zipV_ll, zipV_tt, zipV_lt, zipV_tl, enumV_lst, enumV_tup, biV_lenL, biV_lenT, biV_sumL, biV_sumT, biV_allL, biV_anyL, biV_listL, biV_listT, biV_tupL, biV_tupT, biV_intI, binV_addI, binV_subI, binV_addL, binV_addT, binV_mod, cmpV_eq, cmpV_ne, cmpV_lt, cmpV_le, cmpV_gt, cmpV_ge, cmpV_innL, cmpV_innT, cmpV_ninL, cmpV_ninT, isiV, slV, revV, idxV_l, idxV_t, endF, s13, s14, q1, q2, hh, hL]
end
end NK01
end

section
set_option Elab.async false
set_option linter.all false
set_option maxRecDepth 100000
set_option maxHeartbeats 2000000
namespace NK01
open PySem Z
/-- what is left: plain words on rows of bits -/
structure Facts (s : Sy) : Prop where
  mx : ∃ n ns, sizesB s = n :: ns ∧ maxI n ns = rankB s
  cnt : (fitsB s).length = 0 ∨ (fitsB s).length = 2 ^ (s.w - rankB s)
  rk : rankB s ≤ s.w
  st1 : ∀ x, settB s = (true, x) → x ∈ fitsB s ∧ masksB s = []
  st2 : ∀ y, settB s = (false, y) → y ∈ masksB s ∧ fitsB s = []
  ql : (quietB s).length = s.w - rankB s
  qo : (s.rows.all fun r => (quietB s).all fun x => !dotB r x) = true
  ap : ∀ V : List Row, (∀ r ∈ V, r.length = s.w) → apartB V s.w = decide ((redB V s.w).2.2.length = V.length)
  qa : apartB (quietB s) s.w = true
  sol : ∀ x : Row, x.length = s.w → solB s x = decide (x ∈ fitsB s)
  msk : ∀ y : Row, y.length = s.rows.length → maskB s y = decide (y ∈ masksB s)
def unB : PV → Bool
  | .int i => decide (i = 1) | _ => false
def unT : PV → Row
  | .tup l => l.map unB | _ => []
def unR : PV → List Row
  | .tup l => l.map unT | _ => []
theorem unT_bT (r : Row) : unT (bT r) = r := by
  show (r.map bI).map unB = r
  rw [List.map_map]
  conv => rhs; rw [← List.map_id' r]
  refine List.map_congr_left fun b _ => ?_
  cases b <;> rfl
theorem unR_rows (V : List Row) : unR (.tup (V.map bT)) = V := by
  show (V.map bT).map unT = V
  rw [List.map_map]
  conv => rhs; rw [← List.map_id' V]
  exact List.map_congr_left fun b _ => unT_bT b
def qJ (s : Sy) (o : PV) : Bool := goodV o s.w ((s.w : Int) - rankB s) && ((s.rows.all fun r => (unR o).all fun x => !dotB r x) && apartB (unR o) s.w)
theorem eqET {l : List PV} (h : (PV.tup l).okd DEEP = true) : eqV (.tup l) (.tup []) = some l.isEmpty := by
  unfold eqV
  rw [h]
  cases l <;> rfl
theorem maxE {L : List Int} {n : Int} {ns : List Int} {m : Int} (h : L = n :: ns) (hm : maxI n ns = m) : biV .max (.lst (L.map .int)) = some (.int m) := by
  have e := intsOf_map L fun i => i
  rw [List.map_id'] at e
  show (match intsOf (L.map fun i => .int i) with
    | some (n :: ns) => some (PV.int (maxI n ns))
    | _ => none) = _
  rw [e, h]
  show some (PV.int (maxI n ns)) = _
  rw [hm]
theorem right_body : f_law_system_right.body = [s1, .set false 5 (.bi .max x5c), .set false 7 x7, .set false 10 x10, .set false 11 x11, .ite c6 [.ret (.cst (.bl false))] [], s7, .ite c8 [.ret (.cst (.bl false))] [], .for T4 (.seq it9) tB, .set false 20 (.call 17 [.var 1]), .set true 17 x17, s12, s13, s14] := rfl
section
variable (s : Sy) (ok : s.Ok) (F : Facts s)
include ok F
theorem j31 (d : Nat) (o : PV) (ho : OkQ o) (g : G) (rk : Int) (hrk : rk = rankB s) : runF tab fns (d + 3) 31 [s.P, .int rk, o] g = some (.v (.bl (qJ s o)), g) := by
  have hw8 := ok.w
  unfold qJ
  rw [← hrk]
  cases hg : goodV o s.w ((s.w : Int) - rk) with
  | false => exact r_is_quiet_bad d s rk o ho.t ho.s hg g
  | true =>
    obtain ⟨V, rfl, hl, hV⟩ := goodV_rows ho.s hg
    rw [unR_rows, Bool.true_and]
    exact r_is_quiet d s ok rk V hV hl (by omega) g
theorem j18 (d : Nat) (o : PV) (ho : OkQ o) (g : G) : runF tab fns (d + 5) 18 [s.P, o] g = some (.v (.bl (qJ s o)), g) := by
  unfold qJ
  cases hg : goodV o s.w ((s.w : Int) - rankB s) with
  | false => exact r_are_quiet_bad d s ok o ho.t ho.s hg g
  | true =>
    obtain ⟨V, rfl, hl, hV⟩ := goodV_rows ho.s hg
    rw [unR_rows, Bool.true_and, F.ap V hV]
    exact r_are_quiet d s ok V hV hl g
theorem quiet_w : ∀ r ∈ quietB s, r.length = s.w := by
  intro r hr
  unfold quietB at hr
  obtain ⟨f, _, rfl⟩ := List.mem_map.mp hr
  exact vecB_len _ _ _ _
theorem jq : qJ s (.tup ((quietB s).map bT)) = true := by
  have hrk := F.rk
  unfold qJ
  rw [unR_rows, F.qo, F.qa]
  have : goodV (.tup ((quietB s).map bT)) s.w ((s.w : Int) - rankB s) = true := by
    simp only [goodV, Bool.and_eq_true, decide_eq_true_eq, List.length_map]
    refine ⟨by rw [F.ql]; omega, ?_⟩
    rw [List.all_eq_true]
    intro x hx
    obtain ⟨r, hr, rfl⟩ := List.mem_map.mp hx
    rw [isBits_bT, quiet_w s ok F r hr]
    exact decide_eq_true rfl
  rw [this]; rfl
theorem right12 (d : Nat) (wi rk : Int) (hwi : wi = s.w) (SP : PV) (hSP : SP = s.P) (g : G) (hg : CG g) (u3 u4 u6 u7 u8 u9 u10 u11 u12 u13 u14 u15 u16 u18 u19 u21 u22 u23 : Sl) (O : List PV) (hO : ∀ o ∈ O, OkQ o) (hl : O.length ≤ 100) :
    ∃ O' u9' u21' u22' g', CG g' ∧ (∀ o ∈ O ++ O', OkQ o) ∧ evS1 (ev tab (runF tab fns (d + 6)) 59).e (ev tab (runF tab fns (d + 6)) 59).b [.val (.cell 0), .val SP, .val (.int wi), u3, u4, .val (.int rk), u6, u7, u8, u9, u10, u11, u12, u13, u14, u15, u16, .own (.lst O), u18, u19, .val (.tup ((quietB s).map bT)), u21, u22, u23] g s12 = some (.nx [.val (.cell 0), .val SP, .val (.int wi), u3, u4, .val (.int rk), u6, u7, u8, u9', u10, u11, u12, u13, u14, u15, u16, .own (.lst (O ++ O')), u18, u19, .val (.tup ((quietB s).map bT)), u21', u22', u23], g') := by
  have hw8 := ok.w
  have he := eqET (okd_rowsT (quietB s))
  rw [List.isEmpty_map] at he
  have hqw := quiet_w s ok F
  have hq8 : (quietB s).length ≤ 8 := by rw [F.ql]; omega
  have hc : (ev tab (runF tab fns (d + 6)) 59).e [.val (.cell 0), .val SP, .val (.int wi), u3, u4, .val (.int rk), u6, u7, u8, u9, u10, u11, u12, u13, u14, u15, u16, .own (.lst O), u18, u19, .val (.tup ((quietB s).map bT)), u21, u22, u23] g (.cmp .ne (.var 20) (.tup [])) = some (.v (.bl (!(quietB s).isEmpty)), g) := by
    generalize (quietB s).map bT = X at he ⊢
    generalize (quietB s).isEmpty = y at he ⊢
    simp [ev_b, evB1, evS1, ev_var, ev_pk, ev_cst, ev_gv, ev_gf, ev_bin, ev_neg, ev_not, ev_and, ev_or, ev_cmp, ev_isN, ev_isNN, ev_chain, ev_ite, ev_call, ev_callv, ev_bi, ev_isi, ev_mt, ev_idx, ev_sl, ev_rev, ev_tup, ev_lst, ev_comp, ev_comp2, evIt_seq, evIt_rng1, evIt_rng2, evIt_zip, evIt_enum, evL, evO, evC, evCo, bd_some, bs_some, rt_def, lf_some, nx0_some, bindT_nm, bindT_tp, bindTs_nil, bindTs_cons, wipeE, startE, setNx, setSl, slot, modV, seqV_lst, seqV_tup, zipV_ll, zipV_tt, zipV_lt, zipV_tl, enumV_lst, enumV_tup, biV_lenL, biV_lenT, biV_sumL, biV_sumT, biV_allL, biV_anyL, biV_listL, biV_listT, biV_tupL, biV_tupT, biV_intI, binV_addI, binV_subI, binV_addL, binV_addT, binV_mod, cmpV_eq, cmpV_ne, cmpV_lt, cmpV_le, cmpV_gt, cmpV_ge, cmpV_innL, cmpV_innT, cmpV_ninL, cmpV_ninT, isiV, slV, revV, idxV_l, idxV_t, endF, he]
  cases hq : (quietB s).isEmpty with
  | true =>
    rw [hq] at hc
    refine ⟨[], u9, u21, u22, g, hg, by rw [List.append_nil]; exact hO, ?_⟩
    rw [List.append_nil]
    exact ite_no hc
  | false =>
    rw [hq] at hc
    have hpos : 0 < (quietB s).length := by
      cases hz : quietB s with
      | nil => rw [hz] at hq; cases hq
      | cons _ _ => exact Nat.succ_pos _
    obtain ⟨li, hli⟩ : ∃ li : Int, li = (quietB s).length := ⟨_, rfl⟩
    have hlen : biV .len (.tup ((quietB s).map bT)) = some (.int li) := by
      show some (PV.int (((quietB s).map bT).length : Int)) = _
      rw [List.length_map, hli]
    obtain ⟨a, b, rfl⟩ := hg
    obtain ⟨a1, b1, at_, h1, hat⟩ := r_rollN (d + 5) a b (quietB s).length li hli hpos (by omega)
    obtain ⟨a2, b2, ot, h2, hot⟩ := r_rollN (d + 5) a1 b1 (quietB s).length li hli hpos (by omega)
    obtain ⟨x, hx⟩ : ∃ x, (quietB s)[at_]? = some x := ⟨_, List.getElem?_eq_getElem hat⟩
    obtain ⟨y, hy⟩ : ∃ y, (quietB s)[ot]? = some y := ⟨_, List.getElem?_eq_getElem hot⟩
    have hxm := List.mem_of_getElem? hx
    have hym := List.mem_of_getElem? hy
    have hax : atI ((quietB s).map bT) (at_ : Int) = some (bT x) := atI_nat (by rw [List.getElem?_map, hx]; rfl)
    have hay : atI ((quietB s).map bT) (ot : Int) = some (bT y) := atI_nat (by rw [List.getElem?_map, hy]; rfl)
    obtain ⟨ai, hai⟩ : ∃ ai : Int, ai = at_ := ⟨_, rfl⟩
    obtain ⟨oi, hoi⟩ : ∃ oi : Int, oi = ot := ⟨_, rfl⟩
    rw [← hai] at h1 hax
    rw [← hoi] at h2 hay
    have p := s12p_ok (runF tab fns (d + 6)) wi rk SP u3 u4 u6 u7 u8 u9 u10 u11 u12 u13 u14 u15 u16 u18 u19 u21 u22 u23 ((quietB s).map bT) (cg a b) O (cg a1 b1) (cg a2 b2) li ai oi (bT y) hlen h1 h2 hay
    have h25 := r_sumI (d + 5) [x, y] s.w wi hwi (cg a2 b2) (by omega) fun r hr => by
      have : r ∈ quietB s := by
        cases hr with
        | head => exact hxm
        | tail _ hr => rw [List.mem_singleton.mp hr]; exact hym
      rw [hqw r this]; exact Nat.le_refl _
    have m0 := mulT (x := .int 0) (w := s.w) (by omega)
    have m1 := mulT (x := .int 1) (w := s.w) (by omega)
    rw [← hwi] at m0 m1
    have x1 := x12_ok (runF tab fns (d + 6)) wi rk SP u3 u4 u6 u7 u8 u9 u10 u11 u12 u13 u14 u15 u16 u18 u19 u23 ((quietB s).map bT) (cg a2 b2) O ai (rw x) (rw y) _ _ _ hax h25 m0 m1 (by unfold rw; rw [List.length_map, hqw x hxm]; omega)
    obtain ⟨O', u9', q1, q2, q3⟩ := b12_loop (runF tab fns (d + 6)) wi rk SP u3 u4 u6 u7 u8 u10 u11 u12 u13 u14 u15 u16 u18 u19 (.val (bT y)) u23 ((quietB s).map bT) (cg a2 b2) at_ ai hai (by rw [List.length_map]; omega) (fun z hz => by
      obtain ⟨r, _, rfl⟩ := List.mem_map.mp hz
      exact OkV.bT r) [.tup (List.replicate s.w (.int 0)), bT y, bT (sumB [x, y] s.w), .lst (rw x), .tup (List.replicate s.w (.int 1)), .tup (rw x ++ [.int 0])] O u9 (by simp only [List.length_cons, List.length_nil]; omega) (fun z hz => by
      simp only [List.mem_cons, List.not_mem_nil, or_false] at hz
      rcases hz with h | h | h | h | h | h <;> rw [h]
      · exact OkV.rep _ _ rfl
      · exact OkV.bT _
      · exact OkV.bT _
      · exact OkV.bL _
      · exact OkV.rep _ _ rfl
      · have : rw x ++ [.int 0] = rw (x ++ [false]) := by unfold rw; rw [List.map_append]; rfl
        rw [this]
        exact OkV.bT _) hO
    refine ⟨O', u9', .val (.int ai), .val (bT y), cg a2 b2, ⟨_, _, rfl⟩, q1, ?_⟩
    unfold s12
    rw [evS1, evC, hc]
    rw [bd_some]
    show (ev tab (runF tab fns (d + 6)) 59).b _ _ [s12p, .for (.nm 9) (.seq x12) b12] = _
    rw [bl_cons p, bl_cons (ρ' := [.val (.cell 0), .val SP, .val (.int wi), u3, u4, .val (.int rk), u6, u7, u8, u9', u10, u11, u12, u13, u14, u15, u16, .own (.lst (O ++ O')), u18, u19, .val (.tup ((quietB s).map bT)), .val (.int ai), .val (bT y), u23]) (g' := cg a2 b2), bl_nil]
    rw [evS1, evIt]
    have x1 : (ev tab (runF tab fns (d + 6)) 58).e [.val (.cell 0), .val SP, .val (.int wi), u3, u4, .val (.int rk), u6, u7, u8, u9, u10, u11, u12, u13, u14, u15, u16, .own (.lst O), u18, u19, .val (.tup ((quietB s).map bT)), .val (.int ai), .val (bT y), u23] (cg a2 b2) x12 = _ := x1
    rw [x1, bd_some, seqV_tup, lf_some, bs_some]
    exact q3
end
end NK01
end

section
set_option Elab.async false
set_option linter.all false
set_option maxRecDepth 100000
set_option maxHeartbeats 2000000
namespace NK01
open PySem Z
theorem ret_end {cf : CF} {n : Nat} {ρ : Z.Env} {g g' : G} {B : List S} (h : (ev tab cf 60).b ρ g B = some (.rt (.bl true), g')) (hl : g'.length = n) : endF n ((ev tab cf 60).b ρ g B) = some (.v (.bl true), g') := by
  rw [h, ← hl]
  have e : endF g'.length (some (SO.rt (.bl true), g')) = if decide (g'.length = g'.length) || flatP (.bl true) then some (Out.v (PV.bl true), g'.take g'.length) else none := rfl
  rw [e, List.take_length, if_pos]
  rw [decide_eq_true rfl]; rfl
theorem CG.len {g : G} (h : CG g) : g.length = 1 := by
  obtain ⟨a, b, rfl⟩ := h; rfl
theorem e17q (cf : CF) (SP v : PV) (u2 u3 u4 u5 u6 u7 u8 u9 u10 u11 u12 u13 u14 u15 u16 u17 u18 u19 u20 u21 u22 u23 : Sl) (g : G) (h : cf 17 [SP] g = some (.v v, g)) : (ev tab cf 59).e [.val (.cell 0), .val SP, u2, u3, u4, u5, u6, u7, u8, u9, u10, u11, u12, u13, u14, u15, u16, u17, u18, u19, u20, u21, u22, u23] g (.call 17 [.var 1]) = some (.v v, g) := by
  simp [ev_b, evB1, evS1, ev_var, ev_pk, ev_cst, ev_gv, ev_gf, ev_bin, ev_neg, ev_not, ev_and, ev_or, ev_cmp, ev_isN, ev_isNN, ev_chain, ev_ite, ev_call, ev_callv, ev_bi, ev_isi, ev_mt, ev_idx, ev_sl, ev_rev, ev_tup, ev_lst, ev_comp, ev_comp2, evIt_seq, evIt_rng1, evIt_rng2, evIt_zip, evIt_enum, evL, evO, evC, evCo, bd_some, bs_some, rt_def, lf_some, nx0_some, bindT_nm, bindT_tp, bindTs_nil, bindTs_cons, wipeE, startE, setNx, setSl, slot, modV, seqV_lst, seqV_tup, zipV_ll, zipV_tt, zipV_lt, zipV_tl, enumV_lst, enumV_tup, biV_lenL, biV_lenT, biV_sumL, biV_sumT, biV_allL, biV_anyL, biV_listL, biV_listT, biV_tupL, biV_tupT, biV_intI, binV_addI, binV_subI, binV_addL, binV_addT, binV_mod, cmpV_eq, cmpV_ne, cmpV_lt, cmpV_le, cmpV_gt, cmpV_ge, cmpV_innL, cmpV_innT, cmpV_ninL, cmpV_ninT, isiV, slV, revV, idxV_l, idxV_t, endF, h]
theorem lenL {α : Type} {l : List α} {f : α → PV} {n : Int} (h : n = l.length) : biV .len (.lst (l.map f)) = some (.int n) := by
  rw [h]
  show some (PV.int ((l.map f).length : Int)) = _
  rw [List.length_map]
section
variable (s : Sy) (ok : s.Ok) (F : Facts s)
include ok F
theorem sol_bad (d : Nat) (o : PV) (g : G) (ho : OkV o) (hb : areW o s.w 0 1 = false) : runF tab fns (d + 5) 15 [s.P, o] g = some (.v (.bl false), g) := r_is_sol_bad d s ok o ho.t ho.s hb g
theorem right_holds (d : Nat) (h6 : s.rows.length ≤ 6) (h7 : s.w ≤ 7) (g : G) (hg : CG g) : ∃ g', CG g' ∧ runF tab fns (d + 20) 32 [.cell 0, s.P] g = some (.v (.bl true), g') := by
  obtain ⟨wi, hwi⟩ : ∃ wi : Int, wi = s.w := ⟨_, rfl⟩
  obtain ⟨mi, hmi⟩ : ∃ mi : Int, mi = s.rows.length := ⟨_, rfl⟩
  obtain ⟨rk, hrk⟩ : ∃ rk : Int, rk = rankB s := ⟨_, rfl⟩
  obtain ⟨fi, hfi⟩ : ∃ fi : Int, fi = (fitsB s).length := ⟨_, rfl⟩
  obtain ⟨pi, hpi⟩ : ∃ pi : Int, pi = (allB (s.w - rankB s)).length := ⟨_, rfl⟩
  obtain ⟨SP, hSP⟩ : ∃ SP : PV, SP = s.P := ⟨_, rfl⟩
  have hSP2 : SP = .tup [.int wi, s.R, bT s.right] := by rw [hSP, hwi]; rfl
  have hrkw := F.rk
  obtain ⟨cf, hcf⟩ : ∃ cf, cf = runF tab fns (d + 19) := ⟨_, rfl⟩
  rw [runF_at (f := f_law_system_right) rfl rfl, right_body]
  show ∃ g', CG g' ∧ endF g.length ((ev tab (runF tab fns (d + 19)) 60).b (startE 24 [.cell 0, s.P]) g _) = _
  -- the parts
  have p1 := s1_ok (runF tab fns (d + 19)) s wi SP g hSP2
  obtain ⟨n, ns, hm1, hm2⟩ := F.mx
  have p5 := e5 (runF tab fns (d + 19)) s wi rk SP _ g (e5c (d + 13) s ok wi hwi SP g mi hmi) (maxE hm1 (by rw [hm2, hrk]))
  have p7 := e7 (d + 13) s ok wi hwi SP g rk
  have p10 := e10 (d + 13) s ok wi hwi SP g rk (.lst ((fitsB s).map bT)) mi hmi
  have h3 := r_is_even (d + 16) s ok g
  have h12 := r_rank (d + 14) s ok g
  rw [← hSP] at h3 h12
  rw [← hrk] at h12
  have h24 := r_allI (d + 18) (s.w - rankB s) (wi - rk) (by omega) g (by omega)
  have hin : (((0 : Int) == fi) || (pi == fi)) = true := by
    rw [Bool.or_eq_true, beq_iff_eq, beq_iff_eq]
    rcases F.cnt with h | h
    · left; rw [hfi, h]; rfl
    · right; rw [hfi, hpi, h, allB_len]
  have p11 := e11 (runF tab fns (d + 19)) s wi rk fi pi SP (.lst ((fitsB s).map bT)) (.lst ((masksB s).map bT)) _ g h3 h12 h24 (lenL hfi) (lenL hpi) hin
  have hL3 : Lk 3 (.lst [.bl true, .int rk, .bl true]) := (Lk.seq (Nat.le_refl _) fun x hx => by
    simp only [List.mem_cons, List.not_mem_nil, or_false] at hx
    rcases hx with h | h | h <;> rw [h]
    · exact Lk.bl _
    · exact Lk.int _
    · exact Lk.bl _).2
  have p6 := e6 (runF tab fns (d + 19)) s wi rk SP (.lst ((fitsB s).map bT)) (.lst ((masksB s).map bT)) g (hL3 _ g (by omega))
  have hS := r_solution (d + 14) s ok g
  have hM := r_mask (d + 14) s ok g
  rw [← hSP] at hS hM
  have hF := eqE (okd_rows (fitsB s))
  have hMk := eqE (okd_rows (masksB s))
  rw [List.isEmpty_map] at hF hMk
  have fw : ∀ x ∈ fitsB s, x.length = s.w := fun x hx => by
    unfold fitsB at hx
    exact (allB_mem _ _).mp (List.mem_filter.mp hx).1
  have mw : ∀ x ∈ masksB s, x.length = s.rows.length := fun x hx => by
    unfold masksB at hx
    exact (allB_mem _ _).mp (List.mem_filter.mp hx).1
  -- the two values
  obtain ⟨v12, v13, q12, q13, hv12, hv13, p8⟩ : ∃ v12 v13, runF tab fns (d + 19) 13 [SP] g = some (.v v12, g) ∧ runF tab fns (d + 19) 14 [SP] g = some (.v v13, g) ∧ (v12 = .non ∨ ∃ x, v12 = bT x ∧ x ∈ fitsB s) ∧ (v13 = .non ∨ ∃ x, v13 = bT x ∧ x ∈ masksB s) ∧ (ev tab (runF tab fns (d + 19)) 59).e [.val (.cell 0), .val SP, .val (.int wi), .val s.R, .val (bT s.right), .val (.int rk), .no, .val (.lst ((fitsB s).map bT)), .no, .no, .val (.lst ((masksB s).map bT)), .val (.lst [.bl true, .int rk, .bl true]), .val v12, .val v13, .no, .no, .no, .no, .no, .no, .no, .no, .no, .no] g c8 = some (.v (.bl false), g) := by
    cases hst : settB s with
    | mk b x =>
      rw [hst] at hS hM
      cases b with
      | true =>
        obtain ⟨hx, hm⟩ := F.st1 x hst
        refine ⟨bT x, .non, hS, hM, .inr ⟨x, rfl, hx⟩, .inl rfl, ?_⟩
        rw [hm] at hMk
        have hFf : (fitsB s).isEmpty = false := by
          cases hz : fitsB s with
          | nil => rw [hz] at hx; cases hx
          | cons _ _ => rfl
        rw [hFf] at hF
        rw [hm]
        exact e8a (runF tab fns (d + 19)) s wi rk SP _ _ g _ (rw x) hF hMk
      | false =>
        obtain ⟨hx, hm⟩ := F.st2 x hst
        refine ⟨.non, bT x, hS, hM, .inl rfl, .inr ⟨x, rfl, hx⟩, ?_⟩
        rw [hm] at hF
        have hFf : (masksB s).isEmpty = false := by
          cases hz : masksB s with
          | nil => rw [hz] at hx; cases hx
          | cons _ _ => rfl
        rw [hFf] at hMk
        rw [hm]
        exact e8b (runF tab fns (d + 19)) s wi rk SP _ _ g _ (rw x) hF hMk
  have p7b := s7_ok (runF tab fns (d + 19)) s wi rk SP (.lst ((fitsB s).map bT)) (.lst ((masksB s).map bT)) v12 v13 g (.lst [.bl true, .int rk, .bl true]) q12 q13
  -- the judges
  obtain ⟨s17, g1, hg1, t1⟩ := r_turn SP (.val (.int wi)) (.val s.R) (.val (bT s.right)) (.val (.int rk)) .no (.val (.lst ((fitsB s).map bT))) .no (.val (.lst ((masksB s).map bT))) (.val (.lst [.bl true, .int rk, .bl true])) (.val v12) (.val v13) .no .no .no .no .no .no .no (d + 13) v12 (fitsB s) 15 s.w wi hwi h7 hv12 fw (fun x g hx => by
    have := r_is_sol (d + 14) s ok x hx g
    rw [F.sol x hx] at this
    rw [hSP]; exact this) (fun o g ho hb => by
    rw [hSP]; exact r_is_sol_bad (d + 14) s ok o ho.t ho.s hb g) g hg
  obtain ⟨s17', g2, hg2, t2⟩ := r_turn SP (.val (.int wi)) (.val s.R) (.val (bT s.right)) (.val (.int rk)) .no (.val (.lst ((fitsB s).map bT))) .no (.val (.lst ((masksB s).map bT))) (.val (.lst [.bl true, .int rk, .bl true])) (.val v12) (.val v13) s17 .no .no .no .no .no .no (d + 13) v13 (masksB s) 16 s.rows.length mi hmi (by omega) hv13 mw (fun x g hx => by
    have := r_is_mask (d + 14) s ok x hx g
    rw [F.msk x hx] at this
    rw [hSP]; exact this) (fun o g ho hb => by
    rw [hSP]; exact r_is_mask_bad (d + 14) s ok o ho.t ho.s hb g) g1 hg1
  have p9 := s9_ok (runF tab fns (d + 19)) s wi rk mi SP (.lst ((fitsB s).map bT)) (.lst ((masksB s).map bT)) v12 v13 (.lst [.bl true, .int rk, .bl true]) g g1 g2 _ _ (len_of hmi) t1 _ rfl t2
  -- the quiet rows
  have hq := r_quiet_rows (d + 14) s ok g2
  rw [← hSP] at hq
  have m0 := mulT (x := .int 0) (w := s.w) (by omega)
  rw [← hwi] at m0
  have hqw := quiet_w s ok F
  have hq8 : (quietB s).length ≤ 8 := by rw [F.ql]; omega
  have okq : ∀ l : List Row, OkQ (.tup (l.map bT)) := fun l => ⟨rfl, fun m hm x hx => by
    cases hm
    obtain ⟨r, _, rfl⟩ := List.mem_map.mp hx
    exact OkV.bT r⟩
  have hO1 : ∀ o ∈ [PV.tup ((quietB s).map bT), .tup ((quietB s).map bT).reverse, .tup (((quietB s).map bT).drop 1), .tup ((quietB s).map bT ++ [.tup (List.replicate s.w (.int 0))]), .lst ((quietB s).map bT), .non, .tup []], OkQ o := by
    intro o ho
    simp only [List.mem_cons, List.not_mem_nil, or_false] at ho
    rcases ho with h | h | h | h | h | h | h <;> rw [h]
    · exact okq _
    · rw [← List.map_reverse]; exact okq _
    · rw [← List.map_drop]; exact okq _
    · refine ⟨rfl, fun m hm x hx => ?_⟩
      cases hm
      rcases List.mem_append.mp hx with hx | hx
      · obtain ⟨r, _, rfl⟩ := List.mem_map.mp hx
        exact OkV.bT r
      · rw [List.mem_singleton.mp hx]; exact OkV.rep _ _ rfl
    · exact ⟨rfl, fun m hm => by cases hm⟩
    · exact ⟨rfl, fun m hm => by cases hm⟩
    · exact okq []
  have r10 : (ev tab (runF tab fns (d + 19)) 59).e [.val (.cell 0), .val SP, .val (.int wi), .val s.R, .val (bT s.right), .val (.int rk), .no, .val (.lst ((fitsB s).map bT)), .val v13, .no, .val (.lst ((masksB s).map bT)), .val (.lst [.bl true, .int rk, .bl true]), .val v12, .val v13, .val (.lst ((masksB s).map bT)), .val (.fn 16), .val (.int mi), s17', .no, .no, .no, .no, .no, .no] g2 (.call 17 [.var 1]) = some (.v (.tup ((quietB s).map bT)), g2) := e17q (h := hq) ..
  have r17 : (ev tab (runF tab fns (d + 19)) 59).e [.val (.cell 0), .val SP, .val (.int wi), .val s.R, .val (bT s.right), .val (.int rk), .no, .val (.lst ((fitsB s).map bT)), .val v13, .no, .val (.lst ((masksB s).map bT)), .val (.lst [.bl true, .int rk, .bl true]), .val v12, .val v13, .val (.lst ((masksB s).map bT)), .val (.fn 16), .val (.int mi), s17', .no, .no, .val (.tup ((quietB s).map bT)), .no, .no, .no] g2 x17 = some (.v (.lst [PV.tup ((quietB s).map bT), .tup ((quietB s).map bT).reverse, .tup (((quietB s).map bT).drop 1), .tup ((quietB s).map bT ++ [.tup (List.replicate s.w (.int 0))]), .lst ((quietB s).map bT), .non, .tup []]), g2) := e17 (hz := m0) (hq := by rw [List.length_map]; omega) ..
  obtain ⟨O', u9', u21', u22', g3, hg3, hO2, r12⟩ := right12 s ok F (d + 13) wi rk hwi SP hSP g2 hg2 (.val s.R) (.val (bT s.right)) .no (.val (.lst ((fitsB s).map bT))) (.val v13) .no (.val (.lst ((masksB s).map bT))) (.val (.lst [.bl true, .int rk, .bl true])) (.val v12) (.val v13) (.val (.lst ((masksB s).map bT))) (.val (.fn 16)) (.val (.int mi)) .no .no .no .no .no _ hO1 (by simp only [List.length_cons, List.length_nil]; omega)
  refine ⟨g3, hg3, ret_end ?_ (by rw [hg3.len, hg.len])⟩
  have p1 : evS1 (ev tab (runF tab fns (d + 19)) 59).e (ev tab (runF tab fns (d + 19)) 59).b (startE 24 [.cell 0, s.P]) g s1 = some (.nx [.val (.cell 0), .val SP, .val (.int wi), .val s.R, .val (bT s.right), .no, .no, .no, .no, .no, .no, .no, .no, .no, .no, .no, .no, .no, .no, .no, .no, .no, .no, .no], g) := by rw [← hSP]; exact p1
  rw [bl_cons p1, bl_cons (set_va (ρ' := [.val (.cell 0), .val SP, .val (.int wi), .val s.R, .val (bT s.right), .val (.int rk), .no, .no, .no, .no, .no, .no, .no, .no, .no, .no, .no, .no, .no, .no, .no, .no, .no, .no]) p5 rfl rfl), bl_cons (set_va (ρ' := [.val (.cell 0), .val SP, .val (.int wi), .val s.R, .val (bT s.right), .val (.int rk), .no, .val (.lst ((fitsB s).map bT)), .no, .no, .no, .no, .no, .no, .no, .no, .no, .no, .no, .no, .no, .no, .no, .no]) p7 rfl rfl), bl_cons (set_va (ρ' := [.val (.cell 0), .val SP, .val (.int wi), .val s.R, .val (bT s.right), .val (.int rk), .no, .val (.lst ((fitsB s).map bT)), .no, .no, .val (.lst ((masksB s).map bT)), .no, .no, .no, .no, .no, .no, .no, .no, .no, .no, .no, .no, .no]) p10 rfl rfl), bl_cons (set_va (ρ' := [.val (.cell 0), .val SP, .val (.int wi), .val s.R, .val (bT s.right), .val (.int rk), .no, .val (.lst ((fitsB s).map bT)), .no, .no, .val (.lst ((masksB s).map bT)), .val (.lst [.bl true, .int rk, .bl true]), .no, .no, .no, .no, .no, .no, .no, .no, .no, .no, .no, .no]) p11 rfl rfl), bl_cons (ite_no p6), bl_cons p7b, bl_cons (ite_no p8), bl_cons p9]
  rw [bl_cons (set_va (ρ' := [.val (.cell 0), .val SP, .val (.int wi), .val s.R, .val (bT s.right), .val (.int rk), .no, .val (.lst ((fitsB s).map bT)), .val v13, .no, .val (.lst ((masksB s).map bT)), .val (.lst [.bl true, .int rk, .bl true]), .val v12, .val v13, .val (.lst ((masksB s).map bT)), .val (.fn 16), .val (.int mi), s17', .no, .no, .val (.tup ((quietB s).map bT)), .no, .no, .no]) r10 rfl rfl)]
  rw [bl_cons (set_ow (ρ' := [.val (.cell 0), .val SP, .val (.int wi), .val s.R, .val (bT s.right), .val (.int rk), .no, .val (.lst ((fitsB s).map bT)), .val v13, .no, .val (.lst ((masksB s).map bT)), .val (.lst [.bl true, .int rk, .bl true]), .val v12, .val v13, .val (.lst ((masksB s).map bT)), .val (.fn 16), .val (.int mi), .own (.lst [PV.tup ((quietB s).map bT), .tup ((quietB s).map bT).reverse, .tup (((quietB s).map bT).drop 1), .tup ((quietB s).map bT ++ [.tup (List.replicate s.w (.int 0))]), .lst ((quietB s).map bT), .non, .tup []]), .no, .no, .val (.tup ((quietB s).map bT)), .no, .no, .no]) r17 rfl rfl)]
  rw [bl_cons r12]
  exact tail_ok (J := qJ s) (hO := hO2) (h31 := fun o ho => by rw [hSP]; exact j31 s ok F (d + 16) o ho g3 rk hrk) (h18 := fun o ho => by rw [hSP]; exact j18 s ok F (d + 14) o ho g3) (hJ := jq s ok F) (hL := fun l => Lk.bls l _ g3 (by omega)) ..
end
theorem good32 (h : ∀ s : Sy, s.Ok → Facts s) : Good32 20 := fun d s g ok h6 h7 hg => right_holds s ok (h s ok) d h6 h7 g hg
theorem ends_of_facts (h : ∀ s : Sy, s.Ok → Facts s) (ns : List Int) (hn : ns.length ≤ 63) : ∃ g', runF tab fns 24 33 [.scr ns] [] = some (.v (.bl true), g') := law_ends (good32 h) ns hn
end NK01
end

section
set_option Elab.async false
set_option linter.all false
namespace NK01
open PySem Z
/-! ### vectors of bits -/
abbrev Vec := Nat → Bool
def zv : Vec := fun _ => false
def ad (a b : Vec) : Vec := fun i => xor (a i) (b i)
theorem ad_zv (a : Vec) : ad a zv = a := by funext i; simp [ad, zv]
theorem zv_ad (a : Vec) : ad zv a = a := by funext i; simp [ad, zv]
theorem ad_self (a : Vec) : ad a a = zv := by funext i; simp [ad, zv]
theorem ad_comm (a b : Vec) : ad a b = ad b a := by funext i; simp [ad, Bool.xor_comm]
theorem ad_assoc (a b c : Vec) : ad (ad a b) c = ad a (ad b c) := by funext i; simp [ad, Bool.xor_assoc]
theorem ad_can (a b : Vec) : ad (ad a b) b = a := by rw [ad_assoc, ad_self, ad_zv]
theorem ad_eqz {a b : Vec} (h : ad a b = zv) : a = b := by
  have := ad_can a b
  rw [h, zv_ad] at this
  exact this.symm
/-- the sums of the choices of a list -/
def Sp : List Vec → Vec → Prop
  | [], u => u = zv
  | v :: T, u => Sp T u ∨ Sp T (ad u v)
/-- no sum of a choice that is not empty is zero -/
def Ap : List Vec → Prop
  | [] => True
  | v :: T => ¬ Sp T v ∧ Ap T
theorem Sp.zero : ∀ T, Sp T zv
  | [] => rfl
  | _ :: T => .inl (Sp.zero T)
theorem Sp.add : ∀ {T : List Vec} {a b : Vec}, Sp T a → Sp T b → Sp T (ad a b)
  | [], a, b, h1, h2 => by
    have h1 : a = zv := h1
    have h2 : b = zv := h2
    subst h1; subst h2; exact ad_zv zv
  | v :: T, a, b, h1, h2 => by
    rcases h1 with h1 | h1 <;> rcases h2 with h2 | h2
    · exact .inl (Sp.add h1 h2)
    · right; have := Sp.add h1 h2
      rw [← ad_assoc] at this; exact this
    · right; have := Sp.add h1 h2
      rw [ad_assoc, ad_comm v b, ← ad_assoc] at this; exact this
    · left; have := Sp.add h1 h2
      have e : ad (ad a v) (ad b v) = ad a b := by
        rw [ad_assoc, ad_comm b v, ← ad_assoc v, ad_self, zv_ad]
      rw [e] at this; exact this
theorem Sp.mem : ∀ {T : List Vec} {a : Vec}, a ∈ T → Sp T a
  | v :: T, a, h => by
    cases h with
    | head => right; rw [ad_self]; exact Sp.zero T
    | tail _ h => exact .inl (Sp.mem h)
/-- what holds of all and stays under sums holds of the span -/
theorem Sp.ind {P : Vec → Prop} (h0 : P zv) (ha : ∀ a b, P a → P b → P (ad a b)) : ∀ {T : List Vec}, (∀ x ∈ T, P x) → ∀ {u}, Sp T u → P u
  | [], _, u, h => by have h : u = zv := h; subst h; exact h0
  | v :: T, hT, u, h => by
    rcases h with h | h
    · exact Sp.ind h0 ha (fun x hx => hT x (List.mem_cons_of_mem _ hx)) h
    · have := ha _ _ (Sp.ind h0 ha (fun x hx => hT x (List.mem_cons_of_mem _ hx)) h) (hT v List.mem_cons_self)
      rw [ad_can] at this; exact this
theorem Sp.sub {T T' : List Vec} (h : ∀ x ∈ T, Sp T' x) {u : Vec} (hu : Sp T u) : Sp T' u := Sp.ind (Sp.zero T') (fun _ _ => Sp.add) h hu
theorem Sp.mono {T T' : List Vec} (h : ∀ x ∈ T, x ∈ T') {u : Vec} (hu : Sp T u) : Sp T' u := Sp.sub (fun x hx => Sp.mem (h x hx)) hu
theorem Sp.perm {T T' : List Vec} (h : T.Perm T') {u : Vec} : Sp T u ↔ Sp T' u := ⟨Sp.mono fun x hx => h.mem_iff.mp hx, Sp.mono fun x hx => h.mem_iff.mpr hx⟩
theorem Ap.perm {T T' : List Vec} (h : T.Perm T') : Ap T ↔ Ap T' := by
  induction h with
  | nil => exact Iff.rfl
  | cons x h ih => exact and_congr (not_congr (Sp.perm h)) ih
  | swap x y T =>
    have e : ∀ x y : Vec, (Ap (x :: y :: T)) ↔ (¬ Sp T x ∧ ¬ Sp T (ad x y) ∧ ¬ Sp T y ∧ Ap T) := fun x y => by
      show (¬ (Sp T x ∨ Sp T (ad x y)) ∧ (¬ Sp T y ∧ Ap T)) ↔ _
      rw [not_or, and_assoc]
    rw [e, e, ad_comm y x]
    constructor
    · rintro ⟨a, b, c, d⟩; exact ⟨c, b, a, d⟩
    · rintro ⟨a, b, c, d⟩; exact ⟨c, b, a, d⟩
  | trans _ _ h1 h2 => exact h1.trans h2
/-- rows cleared by the last one -/
def cl (e : Vec → Bool) (p x : Vec) : Vec := if e x then ad x p else x
theorem cl_sp {e : Vec → Bool} {p x : Vec} {T : List Vec} (hp : Sp T p) : Sp T (cl e p x) ↔ Sp T x := by
  unfold cl
  split
  · constructor
    · intro h; have := Sp.add h hp; rw [ad_can] at this; exact this
    · intro h; exact Sp.add h hp
  · exact Iff.rfl
theorem Sp.clear (e : Vec → Bool) (p : Vec) (X : List Vec) {u : Vec} : Sp (X.map (cl e p) ++ [p]) u ↔ Sp (X ++ [p]) u := by
  have hp : ∀ X : List Vec, Sp (X ++ [p]) p := fun X => Sp.mem (List.mem_append.mpr (.inr List.mem_cons_self))
  constructor
  · refine Sp.sub fun x hx => ?_
    rcases List.mem_append.mp hx with hx | hx
    · obtain ⟨y, hy, rfl⟩ := List.mem_map.mp hx
      exact (cl_sp (hp X)).mpr (Sp.mem (List.mem_append.mpr (.inl hy)))
    · rw [List.mem_singleton.mp hx]; exact hp X
  · refine Sp.sub fun x hx => ?_
    rcases List.mem_append.mp hx with hx | hx
    · exact (cl_sp (e := e) (hp _)).mp (Sp.mem (List.mem_append.mpr (.inl (List.mem_map_of_mem hx))))
    · rw [List.mem_singleton.mp hx]; exact hp _
theorem Ap.clear (e : Vec → Bool) (p : Vec) : ∀ X : List Vec, Ap (X.map (cl e p) ++ [p]) ↔ Ap (X ++ [p])
  | [] => Iff.rfl
  | x :: X => by
    show (¬ Sp (X.map (cl e p) ++ [p]) (cl e p x) ∧ Ap (X.map (cl e p) ++ [p])) ↔ (¬ Sp (X ++ [p]) x ∧ Ap (X ++ [p]))
    rw [Ap.clear e p X, Sp.clear, cl_sp (Sp.mem (List.mem_append.mpr (.inr List.mem_cons_self)))]
theorem Ap.left : ∀ {X Y : List Vec}, Ap (X ++ Y) → Ap X
  | [], _, _ => trivial
  | x :: X, Y, h => ⟨fun hx => h.1 (Sp.mono (fun y hy => List.mem_append.mpr (.inl hy)) hx), Ap.left h.2⟩
theorem perm_end {α : Type} [BEq α] [LawfulBEq α] {x : α} {l : List α} (h : x ∈ l) : l.Perm (l.erase x ++ [x]) := (List.perm_cons_erase h).trans (List.perm_append_singleton x (l.erase x)).symm
theorem perm_of_mem {x : Vec} : ∀ {l : List Vec}, x ∈ l → ∃ X, l.Perm (X ++ [x])
  | y :: l, h => by
    cases h with
    | head => exact ⟨l, (List.perm_append_singleton x l).symm⟩
    | tail _ h =>
      obtain ⟨X, hX⟩ := perm_of_mem h
      exact ⟨y :: X, hX.cons y⟩
/-- the exchange: what is apart in the span of n has at most n -/
theorem Ap.le : ∀ (B : List Vec) {A : List Vec}, Ap A → (∀ a ∈ A, Sp B a) → A.length ≤ B.length
  | [], [], _, _ => Nat.le_refl _
  | [], a :: A, h, hA => by
    have : a = zv := hA a List.mem_cons_self
    subst this
    exact absurd (Sp.zero A) h.1
  | b :: B, A, h, hA => by
    by_cases hall : ∀ a ∈ A, Sp B a
    · exact Nat.le_succ_of_le (Ap.le B h hall)
    · have : ∃ a, a ∈ A ∧ ¬ Sp B a := by
        apply Classical.byContradiction
        intro hn
        exact hall fun a ha => Classical.byContradiction fun h => hn ⟨a, ha, h⟩
      obtain ⟨a0, ha0, hn0⟩ := this
      obtain ⟨X, hX⟩ := perm_of_mem ha0
      have hd0 : Sp B (ad a0 b) := (hA a0 ha0).resolve_left hn0
      have h2 := (Ap.perm hX).mp h
      have hdec : ∃ e : Vec → Bool, ∀ x, e x = true ↔ ¬ Sp B x := by
        refine ⟨fun x => @decide (¬ Sp B x) (Classical.propDecidable _), fun x => ?_⟩
        exact @decide_eq_true_iff _ (Classical.propDecidable _)
      obtain ⟨e, he⟩ := hdec
      have h3 := Ap.left ((Ap.clear e a0 X).mpr h2)
      have h4 : ∀ a ∈ X.map (cl e a0), Sp B a := by
        intro a ha
        obtain ⟨x, hx, rfl⟩ := List.mem_map.mp ha
        have hxA : x ∈ A := hX.mem_iff.mpr (List.mem_append.mpr (.inl hx))
        unfold cl
        split
        · rename_i hex
          have hxn := (he x).mp hex
          have hxb : Sp B (ad x b) := (hA x hxA).resolve_left hxn
          have := Sp.add hxb hd0
          have e2 : ad (ad x b) (ad a0 b) = ad x a0 := by
            rw [ad_assoc, ad_comm a0 b, ← ad_assoc b, ad_self, zv_ad]
          rw [e2] at this; exact this
        · rename_i hex
          exact Classical.byContradiction fun hn => hex ((he x).mpr hn)
      have := Ap.le B h3 h4
      rw [List.length_map] at this
      have hl := hX.length_eq
      rw [List.length_append, List.length_singleton] at hl
      rw [List.length_cons]; omega
end NK01
end

section
set_option Elab.async false
set_option linter.all false
namespace NK01
open PySem Z
def fn (r : Row) : Vec := fun i => r.getD i false
theorem fn_cons0 (a : Bool) (r : Row) : fn (a :: r) 0 = a := rfl
theorem fn_consS (a : Bool) (r : Row) (i : Nat) : fn (a :: r) (i + 1) = fn r i := by simp [fn]
theorem fn_out {r : Row} {i : Nat} (h : r.length ≤ i) : fn r i = false := by
  unfold fn
  rw [List.getD_eq_getElem?_getD, List.getElem?_eq_none h]; rfl
theorem fn_add : ∀ {a b : Row}, a.length = b.length → fn (addB a b) = ad (fn a) (fn b)
  | [], [], _ => by funext i; simp [fn, addB, ad]
  | x :: a, y :: b, h => by
    have ih := fn_add (a := a) (b := b) (by simpa using h)
    funext i
    cases i with
    | zero => rfl
    | succ i =>
      have := congrFun ih i
      show fn ((xor x y) :: addB a b) (i + 1) = xor (fn (x :: a) (i + 1)) (fn (y :: b) (i + 1))
      rw [fn_consS, fn_consS, fn_consS]
      exact this
theorem fn_clr {i : Nat} {p r : Row} (h : r.length = p.length) : fn (clr i p r) = cl (fun x => x i) (fn p) (fn r) := by
  unfold clr cl
  show _ = if (fn r) i = true then _ else _
  show fn (if (fn r) i = true then _ else _) = _
  split
  · exact fn_add h
  · rfl
theorem fn_inj {a b : Row} (hl : a.length = b.length) (h : fn a = fn b) : a = b := by
  refine List.ext_getElem hl fun i h1 h2 => ?_
  have := congrFun h i
  unfold fn at this
  rw [List.getD_eq_getElem?_getD, List.getD_eq_getElem?_getD, List.getElem?_eq_getElem h1, List.getElem?_eq_getElem h2] at this
  exact this
/-! ### what redB keeps -/
structure RInv (rows : List Row) (k : Nat) (s : St3) : Prop where
  lt : ∀ c ∈ s.2.2, c < k
  nd : s.2.2.Nodup
  z : ∀ r ∈ s.1, ∀ i, i < k → fn r i = false
  u : ∀ (l j : Nat) (r : Row) (c : Nat), s.2.1[l]? = some r → s.2.2[j]? = some c → fn r c = decide (l = j)
  sp : ∀ u, Sp ((s.1 ++ s.2.1).map fn) u ↔ Sp (rows.map fn) u
  ap : Ap ((s.1 ++ s.2.1).map fn) ↔ Ap (rows.map fn)
theorem RInv.step {rows : List Row} {n k : Nat} {s : St3} (ln : Ln n rows.length s) (h : RInv rows k s) : RInv rows (k + 1) (stepB s k) := by
  obtain ⟨L, F, C⟩ := s
  unfold stepB
  simp only
  split
  · rename_i hf
    refine ⟨fun c hc => Nat.lt_succ_of_lt (h.lt c hc), h.nd, fun r hr i hi => ?_, h.u, h.sp, h.ap⟩
    rcases (by omega : i < k ∨ i = k) with hi | hi
    · exact h.z r hr i hi
    · subst hi
      have : r ∉ L.filter (·.getD i false) := by rw [hf]; exact List.not_mem_nil
      cases hc : fn r i with
      | false => rfl
      | true => exact absurd (List.mem_filter.mpr ⟨hr, hc⟩) this
  · rename_i p q hf
    have hpf : p ∈ L.filter (·.getD k false) := by rw [hf]; exact List.mem_cons_self
    obtain ⟨hp, hpk⟩ := List.mem_filter.mp hpf
    have hpk : fn p k = true := hpk
    have hpl : p.length = n := ln.l p hp
    have hpz : ∀ i, i < k → fn p i = false := h.z p hp
    have hC : ∀ {c}, c ∈ C → c < k := fun hc => h.lt _ hc
    have hcf : C.length = F.length := ln.cf
    have lL : ∀ r ∈ L.erase p, r.length = p.length := fun r hr => by rw [ln.l r (List.mem_of_mem_erase hr), hpl]
    have lF : ∀ r ∈ F, r.length = p.length := fun r hr => by rw [ln.f r hr, hpl]
    have e1 : ((L.erase p).map (clr k p) ++ (F.map (clr k p) ++ [p])).map fn = ((L.erase p ++ F).map fn).map (cl (fun x => x k) (fn p)) ++ [fn p] := by
      rw [List.map_append, List.map_append, List.map_append, List.map_append]
      simp only [List.map_map, List.map_cons, List.map_nil]
      rw [← List.append_assoc]
      congr 1
      congr 1
      · exact List.map_congr_left fun r hr => fn_clr (lL r hr)
      · exact List.map_congr_left fun r hr => fn_clr (lF r hr)
    have hperm : ((L ++ F).map fn).Perm ((L.erase p ++ F).map fn ++ [fn p]) := by
      have : (L ++ F).Perm ((L.erase p ++ F) ++ [p]) := by
        refine ((perm_end hp).append_right F).trans ?_
        rw [List.append_assoc, List.append_assoc]
        exact List.Perm.append_left _ List.perm_append_comm
      have := this.map fn
      rw [List.map_append (l₂ := [p])] at this
      exact this
    refine ⟨?_, ?_, ?_, ?_, ?_, ?_⟩
    · intro c hc
      rcases List.mem_append.mp hc with hc | hc
      · exact Nat.lt_succ_of_lt (hC hc)
      · rw [List.mem_singleton.mp hc]; exact Nat.lt_succ_self k
    · show (C ++ [k]).Nodup
      rw [List.nodup_append]
      refine ⟨h.nd, by simp, ?_⟩
      intro a ha b hb
      rw [List.mem_singleton.mp hb]
      exact Nat.ne_of_lt (hC ha)
    · intro r hr i hi
      obtain ⟨r', hr', rfl⟩ := List.mem_map.mp hr
      rw [fn_clr (lL r' hr')]
      unfold cl
      have hz := h.z r' (List.mem_of_mem_erase hr')
      rcases (by omega : i < k ∨ i = k) with hi | hi
      · split
        · show xor (fn r' i) (fn p i) = false
          rw [hz i hi, hpz i hi]; rfl
        · exact hz i hi
      · subst hi
        split
        · rename_i he
          have he : fn r' i = true := he
          show xor (fn r' i) (fn p i) = false
          rw [he, hpk]; rfl
        · rename_i he
          exact Bool.eq_false_iff.mpr he
    · intro l j r c hl hj
      have hlF : (F.map (clr k p)).length = F.length := List.length_map _
      -- the row
      rcases Nat.lt_or_ge l F.length with hlt | hge
      · rw [List.getElem?_append_left (by rw [hlF]; exact hlt), List.getElem?_map] at hl
        obtain ⟨r', hr'⟩ : ∃ r', F[l]? = some r' := ⟨_, List.getElem?_eq_getElem hlt⟩
        rw [hr'] at hl
        cases hl
        have hrl := lF r' (List.mem_of_getElem? hr')
        rw [fn_clr hrl]
        rcases Nat.lt_or_ge j C.length with hjl | hjg
        · rw [List.getElem?_append_left hjl] at hj
          have hcC := List.mem_of_getElem? hj
          have hu := h.u l j r' c hr' hj
          unfold cl
          split
          · show xor (fn r' c) (fn p c) = _
            rw [hpz c (hC hcC), hu, Bool.xor_false]
          · exact hu
        · rw [List.getElem?_append_right hjg] at hj
          have hj0 : j - C.length = 0 := by
            rcases Nat.eq_zero_or_pos (j - C.length) with e | e
            · exact e
            · rw [List.getElem?_eq_none (by rw [List.length_singleton]; omega)] at hj; cases hj
          rw [hj0] at hj
          cases hj
          have hne : decide (l = j) = false := decide_eq_false (by omega)
          rw [hne]
          unfold cl
          split
          · rename_i he
            have he : fn r' k = true := he
            show xor (fn r' k) (fn p k) = false
            rw [he, hpk]; rfl
          · rename_i he
            exact Bool.eq_false_iff.mpr he
      · rw [List.getElem?_append_right (by rw [hlF]; exact hge), hlF] at hl
        have hl0 : l - F.length = 0 := by
          rcases Nat.eq_zero_or_pos (l - F.length) with e | e
          · exact e
          · rw [List.getElem?_eq_none (by rw [List.length_singleton]; omega)] at hl; cases hl
        rw [hl0] at hl
        cases hl
        rcases Nat.lt_or_ge j C.length with hjl | hjg
        · rw [List.getElem?_append_left hjl] at hj
          rw [hpz c (hC (List.mem_of_getElem? hj)), decide_eq_false (by omega)]
        · rw [List.getElem?_append_right hjg] at hj
          have hj0 : j - C.length = 0 := by
            rcases Nat.eq_zero_or_pos (j - C.length) with e | e
            · exact e
            · rw [List.getElem?_eq_none (by rw [List.length_singleton]; omega)] at hj; cases hj
          rw [hj0] at hj
          cases hj
          rw [hpk, decide_eq_true (by omega)]
    · intro u
      show Sp (((L.erase p).map (clr k p) ++ (F.map (clr k p) ++ [p])).map fn) u ↔ _
      rw [e1, Sp.clear, ← Sp.perm hperm]
      exact h.sp u
    · show Ap (((L.erase p).map (clr k p) ++ (F.map (clr k p) ++ [p])).map fn) ↔ _
      rw [e1, Ap.clear, ← Ap.perm hperm]
      exact h.ap
theorem redB_inv {rows : List Row} {n : Nat} (hr : ∀ r ∈ rows, r.length = n) : ∀ k, RInv rows k (redB rows k)
  | 0 => ⟨(fun c hc => by cases hc), List.nodup_nil, (fun r _ i hi => by omega), (fun l j r c hl => by cases hl), (fun u => by
      show Sp ((rows ++ []).map fn) u ↔ _
      rw [List.append_nil]), by
      show Ap ((rows ++ []).map fn) ↔ _
      rw [List.append_nil]⟩
  | k + 1 => by
    rw [redB_succ]
    exact (redB_inv hr k).step (redB_ln hr k)
end NK01
end

section
set_option Elab.async false
set_option linter.all false
namespace NK01
open PySem Z
/-! ### choices -/
theorem chosen_cons {α : Type} (v : α) (T : List α) (b : Bool) (c : Row) : chosenB (v :: T) (b :: c) = if b then v :: chosenB T c else chosenB T c := by
  unfold chosenB
  rw [List.zip_cons_cons, List.filter_cons]
  cases b <;> rfl
def sumV (rows : List Row) : Vec := fun i => xa (rows.map fun r => fn r i)
theorem sumV_nil : sumV [] = zv := rfl
theorem sumV_cons (r : Row) (T : List Row) : sumV (r :: T) = ad (fn r) (sumV T) := rfl
theorem xa_false {α : Type} : ∀ l : List α, xa (l.map fun _ => false) = false
  | [] => rfl
  | x :: l => by
    show xor false (xa (l.map fun _ => false)) = false
    rw [xa_false l]; rfl
theorem sum_any {rows : List Row} {w : Nat} (h : ∀ r ∈ rows, r.length = w) : (sumB rows w).any id = false ↔ sumV rows = zv := by
  unfold sumB
  rw [any_map, List.any_eq_false]
  constructor
  · intro hz
    funext i
    rcases Nat.lt_or_ge i w with hi | hi
    · have := hz i (List.mem_range.mpr hi)
      exact Bool.eq_false_iff.mpr this
    · show xa (rows.map fun r => fn r i) = false
      have : (rows.map fun r => fn r i) = rows.map fun _ => false := List.map_congr_left fun r hr => fn_out (by rw [h r hr]; exact hi)
      rw [this]
      exact xa_false rows
  · intro hz i _
    have := congrFun hz i
    rw [Bool.not_eq_true]
    exact this
theorem sp_chosen : ∀ {T : List Row} {u : Vec}, Sp (T.map fn) u ↔ ∃ c : Row, c.length = T.length ∧ u = sumV (chosenB T c)
  | [], u => ⟨fun h => ⟨[], rfl, h⟩, fun ⟨c, _, h⟩ => by
      have : chosenB ([] : List Row) c = [] := by simp [chosenB]
      rw [this] at h; exact h⟩
  | v :: T, u => by
    show (Sp (T.map fn) u ∨ Sp (T.map fn) (ad u (fn v))) ↔ _
    rw [sp_chosen, sp_chosen]
    constructor
    · rintro (⟨c, h1, h2⟩ | ⟨c, h1, h2⟩)
      · exact ⟨false :: c, by simp [h1], by rw [chosen_cons]; exact h2⟩
      · refine ⟨true :: c, by simp [h1], ?_⟩
        rw [chosen_cons, if_pos rfl, sumV_cons, ← h2, ad_comm, ad_can]
    · rintro ⟨c, h1, h2⟩
      cases c with
      | nil => cases h1
      | cons b c =>
        have h3 : c.length = T.length := by simpa using h1
        rw [chosen_cons] at h2
        cases b with
        | false => exact .inl ⟨c, h3, h2⟩
        | true =>
          right
          rw [if_pos rfl, sumV_cons] at h2
          exact ⟨c, h3, by rw [h2, ad_comm (fn v), ad_can]⟩
theorem ap_chosen : ∀ {T : List Row}, Ap (T.map fn) ↔ ∀ c : Row, c.length = T.length → c.any id = true → sumV (chosenB T c) ≠ zv
  | [] => ⟨(fun _ c h1 h2 => by
      rw [List.length_eq_zero_iff.mp h1] at h2; cases h2), fun _ => trivial⟩
  | v :: T => by
    show (¬ Sp (T.map fn) (fn v) ∧ Ap (T.map fn)) ↔ _
    rw [ap_chosen]
    constructor
    · rintro ⟨h1, h2⟩ c hc ha
      cases c with
      | nil => cases ha
      | cons b c =>
        have h3 : c.length = T.length := by simpa using hc
        rw [chosen_cons]
        cases b with
        | false => exact h2 c h3 ha
        | true =>
          rw [if_pos rfl, sumV_cons]
          intro hz
          exact h1 (sp_chosen.mpr ⟨c, h3, ad_eqz hz⟩)
    · intro h
      refine ⟨fun hs => ?_, fun c hc ha => ?_⟩
      · obtain ⟨c, hc, he⟩ := sp_chosen.mp hs
        refine h (true :: c) (by simp [hc]) rfl ?_
        rw [chosen_cons, if_pos rfl, sumV_cons, he, ad_self]
      · have := h (false :: c) (by simp [hc]) ha
        rw [chosen_cons] at this
        exact this
theorem apartB_iff {rows : List Row} {w : Nat} (h : ∀ r ∈ rows, r.length = w) : apartB rows w = true ↔ Ap (rows.map fn) := by
  rw [ap_chosen]
  unfold apartB
  rw [List.isEmpty_iff, List.filter_eq_nil_iff]
  constructor
  · intro hz c hc ha hs
    refine hz c ((allB_mem _ _).mpr hc) ?_
    rw [ha, (sum_any fun r hr => h r (chosen_sub r hr)).mpr hs]; rfl
  · intro hz c hc hb
    rw [Bool.and_eq_true] at hb
    refine hz c ((allB_mem _ _).mp hc) hb.1 ?_
    rw [← sum_any fun r hr => h r (chosen_sub r hr)]
    simpa using hb.2
/-! ### unit columns -/
def Du (T : List Row) : Prop := ∀ (l : Nat) (r : Row), T[l]? = some r → ∃ i, fn r i = true ∧ ∀ (l' : Nat) (r' : Row), T[l']? = some r' → l' ≠ l → fn r' i = false
theorem Du.tail {r : Row} {T : List Row} (h : Du (r :: T)) : Du T := fun l r' hl => by
  obtain ⟨i, h1, h2⟩ := h (l + 1) r' hl
  exact ⟨i, h1, fun l' r2 hl' hne => h2 (l' + 1) r2 hl' (by omega)⟩
theorem Du.ap : ∀ {T : List Row}, Du T → Ap (T.map fn)
  | [], _ => trivial
  | r :: T, h => by
    refine ⟨fun hs => ?_, h.tail.ap⟩
    obtain ⟨i, h1, h2⟩ := h 0 r rfl
    have : fn r i = false := Sp.ind (P := fun u => u i = false) rfl (fun a b ha hb => by show xor (a i) (b i) = false; rw [ha, hb]; rfl) (fun x hx => by
      obtain ⟨r', hr', rfl⟩ := List.mem_map.mp hx
      obtain ⟨l, hl⟩ := List.getElem?_of_mem hr'
      exact h2 (l + 1) r' hl (by omega)) hs
    rw [h1] at this; cases this
theorem redB_du {rows : List Row} {n : Nat} (hr : ∀ r ∈ rows, r.length = n) (k : Nat) : Du (redB rows k).2.1 := by
  have h := redB_inv hr k
  have ln := redB_ln hr k
  intro l r hl
  have hlt : l < (redB rows k).2.2.length := by
    rw [ln.cf]; exact (List.getElem?_eq_some_iff.mp hl).1
  obtain ⟨c, hc⟩ : ∃ c, (redB rows k).2.2[l]? = some c := ⟨_, List.getElem?_eq_getElem hlt⟩
  refine ⟨c, by rw [h.u l l r c hl hc]; exact decide_eq_true rfl, fun l' r' hl' hne => ?_⟩
  rw [h.u l' l r' c hl' hc]
  exact decide_eq_false hne
/-- rows reduced over their whole width: what is left is zero -/
theorem left_zero {rows : List Row} {n : Nat} (hr : ∀ r ∈ rows, r.length = n) : ∀ r ∈ (redB rows n).1, fn r = zv := by
  intro r h
  have hi := redB_inv hr n
  have ln := redB_ln hr n
  funext i
  rcases Nat.lt_or_ge i n with h1 | h1
  · exact hi.z r h i h1
  · exact fn_out (by rw [ln.l r h]; exact h1)
theorem sp_found {rows : List Row} {n : Nat} (hr : ∀ r ∈ rows, r.length = n) (u : Vec) : Sp ((redB rows n).2.1.map fn) u ↔ Sp (rows.map fn) u := by
  rw [← (redB_inv hr n).sp u]
  constructor
  · exact Sp.mono fun x hx => by
      rw [List.map_append]; exact List.mem_append.mpr (.inr hx)
  · refine Sp.sub fun x hx => ?_
    rw [List.map_append] at hx
    rcases List.mem_append.mp hx with hx | hx
    · obtain ⟨r, h, rfl⟩ := List.mem_map.mp hx
      rw [left_zero hr r h]; exact Sp.zero _
    · exact Sp.mem hx
theorem ap_rank {rows : List Row} {n : Nat} (hr : ∀ r ∈ rows, r.length = n) : apartB rows n = decide ((redB rows n).2.2.length = rows.length) := by
  have hi := redB_inv hr n
  have ln := redB_ln hr n
  have lz := left_zero hr
  have du := redB_du hr n
  have hiff : apartB rows n = true ↔ (redB rows n).2.2.length = rows.length := by
    rw [apartB_iff hr, ← hi.ap]
    have hc := ln.c
    have hcf := ln.cf
    constructor
    · intro h
      cases hL : (redB rows n).1 with
      | nil => rw [hL] at hc; simp at hc; omega
      | cons r L =>
        rw [hL] at h lz
        have : fn r = zv := lz r List.mem_cons_self
        have h : Ap (fn r :: (L ++ (redB rows n).2.1).map fn) := h
        rw [this] at h
        exact absurd (Sp.zero _) h.1
    · intro h
      have : (redB rows n).1 = [] := List.length_eq_zero_iff.mp (by omega)
      rw [this]
      exact du.ap
  by_cases h : (redB rows n).2.2.length = rows.length
  · rw [decide_eq_true h]; exact hiff.mpr h
  · rw [decide_eq_false h]
    exact Bool.eq_false_iff.mpr fun e => h (hiff.mp e)
/-! ### the greatest size -/
theorem maxI_of {k : Int} : ∀ (ns : List Int) (n : Int), (∀ x ∈ n :: ns, x ≤ k) → k ∈ n :: ns → maxI n ns = k
  | [], n, _, h => by rw [List.mem_singleton.mp h]; rfl
  | x :: r, n, h1, h2 => by
    rw [maxI]
    have hn := h1 n List.mem_cons_self
    have hx := h1 x (List.mem_cons_of_mem _ List.mem_cons_self)
    refine maxI_of r _ (fun y hy => ?_) ?_
    · cases hy with
      | head => split <;> assumption
      | tail _ hy => exact h1 y (List.mem_cons_of_mem _ (List.mem_cons_of_mem _ hy))
    · cases h2 with
      | head => rw [if_neg (by omega)]; exact List.mem_cons_self
      | tail _ h2 =>
        cases h2 with
        | head =>
          split
          · exact List.mem_cons_self
          · have : n = k := by omega
            rw [this]; exact List.mem_cons_self
        | tail _ h2 => exact List.mem_cons_of_mem _ h2
theorem cnt_chosen {α : Type} : ∀ (T : List α) (c : Row), c.length = T.length → cntB c = (chosenB T c).length
  | [], [], _ => rfl
  | v :: T, b :: c, h => by
    have ih := cnt_chosen T c (by simpa using h)
    rw [chosen_cons]
    unfold cntB at ih ⊢
    rw [List.map_cons, List.sum_cons, ih]
    cases b with
    | false => simp [b2z]
    | true => simp [b2z]; omega
theorem basis : ∀ T : List Row, ∃ c : Row, c.length = T.length ∧ Ap ((chosenB T c).map fn) ∧ ∀ v ∈ T, Sp ((chosenB T c).map fn) (fn v)
  | [] => ⟨[], rfl, trivial, fun v hv => by cases hv⟩
  | v :: T => by
    obtain ⟨c, h1, h2, h3⟩ := basis T
    by_cases hv : Sp ((chosenB T c).map fn) (fn v)
    · refine ⟨false :: c, by simp [h1], by rw [chosen_cons]; exact h2, fun x hx => ?_⟩
      rw [chosen_cons]
      cases hx with
      | head => exact hv
      | tail _ hx => exact h3 x hx
    · refine ⟨true :: c, by simp [h1], by rw [chosen_cons]; exact ⟨hv, h2⟩, fun x hx => ?_⟩
      rw [chosen_cons, if_pos rfl, List.map_cons]
      cases hx with
      | head => exact Sp.mem List.mem_cons_self
      | tail _ hx => exact .inl (h3 x hx)
theorem fact_mx (s : Sy) (ok : s.Ok) : ∃ n ns, sizesB s = n :: ns ∧ maxI n ns = rankB s := by
  have ln := redB_ln ok.r s.w
  have du := redB_du ok.r s.w
  have hle : ∀ x ∈ sizesB s, x ≤ (rankB s : Int) := by
    intro x hx
    unfold sizesB at hx
    obtain ⟨c, hc, rfl⟩ := List.mem_map.mp hx
    obtain ⟨hc1, hc2⟩ := List.mem_filter.mp hc
    rw [cnt_chosen s.rows c ((allB_mem _ _).mp hc1)]
    have ha := (apartB_iff fun r hr => ok.r r (chosen_sub r hr)).mp hc2
    have := Ap.le ((redB s.rows s.w).2.1.map fn) ha fun a ha => by
      rw [sp_found ok.r]
      obtain ⟨r, hr, rfl⟩ := List.mem_map.mp ha
      exact Sp.mem (List.mem_map_of_mem (chosen_sub r hr))
    rw [List.length_map, List.length_map] at this
    unfold rankB
    rw [ln.cf]; omega
  have hm : (rankB s : Int) ∈ sizesB s := by
    obtain ⟨c, h1, h2, h3⟩ := basis s.rows
    have hap : apartB (chosenB s.rows c) s.w = true := (apartB_iff fun r hr => ok.r r (chosen_sub r hr)).mpr h2
    have hmem : cntB c ∈ sizesB s := List.mem_map_of_mem (List.mem_filter.mpr ⟨(allB_mem _ _).mpr h1, hap⟩)
    have hlt := hle _ hmem
    have := Ap.le ((chosenB s.rows c).map fn) du.ap fun a ha => by
      have := (sp_found ok.r a).mp (Sp.mem ha)
      exact Sp.sub (fun x hx => by
        obtain ⟨r, hr, rfl⟩ := List.mem_map.mp hx
        exact h3 r hr) this
    rw [List.length_map, List.length_map] at this
    have e : cntB c = (rankB s : Int) := by
      have e2 := cnt_chosen s.rows c h1
      have e3 : rankB s = (redB s.rows s.w).2.1.length := ln.cf
      omega
    rw [← e]; exact hmem
  cases hS : sizesB s with
  | nil => rw [hS] at hm; cases hm
  | cons n ns => exact ⟨n, ns, rfl, maxI_of ns n (by rw [← hS]; exact hle) (by rw [← hS]; exact hm)⟩
end NK01
end

section
set_option Elab.async false
set_option linter.all false
namespace NK01
open PySem Z
/-! ### inner products -/
def dotV : Nat → Vec → Vec → Bool
  | 0, _, _ => false
  | n + 1, a, b => xor (a 0 && b 0) (dotV n (fun i => a (i + 1)) (fun i => b (i + 1)))
theorem dotV_congr : ∀ {n : Nat} {a b a' b' : Vec}, (∀ i, i < n → (a i && b i) = (a' i && b' i)) → dotV n a b = dotV n a' b'
  | 0, _, _, _, _, _ => rfl
  | n + 1, a, b, a', b', h => by
    rw [dotV, dotV, h 0 (Nat.succ_pos n), dotV_congr fun i hi => h (i + 1) (by omega)]
theorem dotV_comm (n : Nat) (a b : Vec) : dotV n a b = dotV n b a := by
  induction n generalizing a b with
  | zero => rfl
  | succ n ih => rw [dotV, dotV, ih, Bool.and_comm]
theorem dotV_ad : ∀ (n : Nat) (a b c : Vec), dotV n a (ad b c) = xor (dotV n a b) (dotV n a c)
  | 0, _, _, _ => rfl
  | n + 1, a, b, c => by
    rw [dotV, dotV, dotV]
    have := dotV_ad n (fun i => a (i + 1)) (fun i => b (i + 1)) (fun i => c (i + 1))
    have e : (fun i => ad b c (i + 1)) = ad (fun i => b (i + 1)) (fun i => c (i + 1)) := rfl
    rw [e, this]
    show xor (a 0 && xor (b 0) (c 0)) _ = _
    cases a 0 <;> cases b 0 <;> cases c 0 <;> cases dotV n (fun i => a (i + 1)) (fun i => b (i + 1)) <;> cases dotV n (fun i => a (i + 1)) (fun i => c (i + 1)) <;> rfl
theorem dotV_ad' (n : Nat) (a b c : Vec) : dotV n (ad a b) c = xor (dotV n a c) (dotV n b c) := by
  rw [dotV_comm, dotV_ad, dotV_comm n c a, dotV_comm n c b]
theorem dotV_zero : ∀ (n : Nat) {a b : Vec}, (∀ i, i < n → (a i && b i) = false) → dotV n a b = false
  | 0, _, _, _ => rfl
  | n + 1, a, b, h => by
    rw [dotV, h 0 (Nat.succ_pos n), dotV_zero n fun i hi => h (i + 1) (by omega)]; rfl
def un (c : Nat) : Vec := fun i => decide (i = c)
theorem dotV_un : ∀ (n : Nat) (a : Vec) (c : Nat), c < n → dotV n a (un c) = a c
  | 0, _, _, h => by omega
  | n + 1, a, 0, _ => by
    rw [dotV, dotV_zero n fun i _ => by simp [un]]
    simp [un]
  | n + 1, a, c + 1, h => by
    have := dotV_un n (fun i => a (i + 1)) c (by omega)
    have e : (fun i => un (c + 1) (i + 1)) = un c := by
      funext i; simp [un]
    rw [dotV, e, this]
    simp [un]
theorem dotB_cons (p q : Bool) (a b : Row) : dotB (p :: a) (q :: b) = xor (p && q) (dotB a b) := rfl
theorem dotB_V : ∀ {n : Nat} {a : Row} (b : Row), a.length ≤ n → dotB a b = dotV n (fn a) (fn b)
  | n, [], b, _ => by
    rw [dotV_zero n fun i _ => by simp [fn]]
    simp [dotB, xa]
  | 0, p :: a, b, h => by simp at h
  | n + 1, p :: a, [], h => by
    rw [dotV_zero (n + 1) fun i _ => by simp [fn]]
    simp [dotB, xa]
  | n + 1, p :: a, q :: b, h => by
    have ih := dotB_V (n := n) (a := a) b (by simpa using h)
    rw [dotB_cons, dotV, ih]
    have e : ∀ (x : Bool) (r : Row), (fun i => fn (x :: r) (i + 1)) = fn r := fun x r => by
      funext i; exact fn_consS x r i
    rw [e, e]; rfl
theorem dotB_comm (a b : Row) : dotB a b = dotB b a := by
  rw [dotB_V (n := a.length + b.length) b (by omega), dotB_V (n := a.length + b.length) a (by omega), dotV_comm]
/-! ### choices and columns -/
theorem sum_col : ∀ (T : List Row) (y : Row) (i : Nat), sumV (chosenB T y) i = dotB (T.map fun r => r.getD i false) y
  | [], y, i => by simp [chosenB, sumV, xa, dotB]
  | v :: T, [], i => by simp [chosenB, sumV, xa, dotB]
  | v :: T, b :: y, i => by
    have ih := sum_col T y i
    rw [chosen_cons, List.map_cons, dotB_cons, ← ih]
    cases b with
    | false => simp
    | true =>
      rw [if_pos rfl, sumV_cons]
      simp [ad, fn]
theorem fred {w : Nat} (x : Row) : ∀ (T : List Row) (y : Row), (∀ r ∈ T, r.length = w) → dotB (T.map fun r => dotB r x) y = dotV w (sumV (chosenB T y)) (fn x)
  | [], y, _ => by
    have : chosenB ([] : List Row) y = [] := by simp [chosenB]
    rw [this, sumV_nil, dotV_zero w fun i _ => rfl]
    simp [dotB, xa]
  | v :: T, [], _ => by
    have : chosenB (v :: T) [] = [] := by simp [chosenB]
    rw [this, sumV_nil, dotV_zero w fun i _ => rfl]
    simp [dotB, xa]
  | v :: T, b :: y, h => by
    have ih := fred x T y fun r hr => h r (List.mem_cons_of_mem _ hr)
    rw [chosen_cons, List.map_cons, dotB_cons, ih]
    cases b with
    | false => simp
    | true =>
      rw [if_pos rfl, sumV_cons, dotV_ad', ← dotB_V x (Nat.le_of_eq (h v List.mem_cons_self))]
      simp
section
variable (s : Sy) (ok : s.Ok)
include ok
theorem mem_fits {x : Row} : x ∈ fitsB s ↔ x.length = s.w ∧ s.rows.map (fun r => dotB r x) = s.right := by
  unfold fitsB
  rw [List.mem_filter, allB_mem, decide_eq_true_iff]
theorem mem_masks {y : Row} : y ∈ masksB s ↔ y.length = s.rows.length ∧ dotB s.right y = true ∧ sumV (chosenB s.rows y) = zv := by
  unfold masksB
  rw [List.mem_filter, allB_mem, Bool.and_eq_true, dotB_comm, ← sum_any fun r hr => ok.r r (chosen_sub r hr)]
  simp
theorem fact_sol (x : Row) (hx : x.length = s.w) : solB s x = decide (x ∈ fitsB s) := by
  have h : solB s x = true ↔ x ∈ fitsB s := by
    rw [mem_fits s ok]
    unfold solB
    have hl := ok.l
    have : ∀ (T : List Row) (b : Row), b.length = T.length → (((T.zip b).all fun p => dotB p.1 x == p.2) = true ↔ T.map (fun r => dotB r x) = b) := by
      intro T
      induction T with
      | nil => intro b hb; rw [List.length_eq_zero_iff.mp hb]; simp
      | cons v T ih =>
        intro b hb
        cases b with
        | nil => cases hb
        | cons q b =>
          rw [List.zip_cons_cons, List.all_cons, Bool.and_eq_true, ih b (by simpa using hb), List.map_cons, List.cons.injEq, beq_iff_eq]
    rw [this s.rows s.right hl]
    exact ⟨fun h => ⟨hx, h⟩, fun h => h.2⟩
  by_cases hd : x ∈ fitsB s
  · rw [decide_eq_true hd]; exact h.mpr hd
  · rw [decide_eq_false hd]; exact Bool.eq_false_iff.mpr fun e => hd (h.mp e)
theorem fact_msk (y : Row) (hy : y.length = s.rows.length) : maskB s y = decide (y ∈ masksB s) := by
  have h : maskB s y = true ↔ y ∈ masksB s := by
    rw [mem_masks s ok]
    unfold maskB
    rw [Bool.and_eq_true, Bool.not_eq_true', List.any_eq_false]
    constructor
    · rintro ⟨h1, h2⟩
      refine ⟨hy, h1, ?_⟩
      funext i
      rcases Nat.lt_or_ge i s.w with hi | hi
      · have := h2 i (List.mem_range.mpr hi)
        rw [sum_col]
        exact Bool.eq_false_iff.mpr this
      · show xa ((chosenB s.rows y).map fun r => fn r i) = false
        have e : ((chosenB s.rows y).map fun r => fn r i) = (chosenB s.rows y).map fun _ => false := List.map_congr_left fun r hr => fn_out (by rw [ok.r r (chosen_sub r hr)]; exact hi)
        rw [e]; exact xa_false _
    · rintro ⟨_, h1, h2⟩
      refine ⟨h1, fun i _ => ?_⟩
      have := congrFun h2 i
      rw [sum_col] at this
      rw [Bool.not_eq_true]
      exact this
  by_cases hd : y ∈ masksB s
  · rw [decide_eq_true hd]; exact h.mpr hd
  · rw [decide_eq_false hd]; exact Bool.eq_false_iff.mpr fun e => hd (h.mp e)
/-- never both -/
theorem not_both {x y : Row} (hx : x ∈ fitsB s) (hy : y ∈ masksB s) : False := by
  rw [mem_fits s ok] at hx
  rw [mem_masks s ok] at hy
  have := fred x s.rows y ok.r
  rw [hx.2, hy.2.1, hy.2.2, dotV_zero s.w fun i _ => rfl] at this
  cases this
end
/-! ### filled rows -/
theorem fn_set {v : Row} {c : Nat} {b : Bool} (h : c < v.length) (i : Nat) : fn (v.set c b) i = if i = c then b else fn v i := by
  unfold fn
  rw [List.getD_eq_getElem?_getD, List.getD_eq_getElem?_getD, List.getElem?_set]
  by_cases e : c = i
  · subst e
    simp [h]
  · have e2 : ¬ i = c := fun h => e h.symm
    simp [e, e2]
theorem fill_at (k : Nat) : ∀ (F : List Row) (C : List Nat) (v : Row), C.Nodup → (∀ c ∈ C, c < v.length) → (∀ (l : Nat) (r : Row) (c : Nat), F[l]? = some r → C[l]? = some c → fn (fillB k v (F.zip C)) c = fn r k) ∧ ∀ i, i ∉ C → fn (fillB k v (F.zip C)) i = fn v i
  | [], C, v, _, _ => ⟨(fun l r c h => by cases h), fun i _ => rfl⟩
  | r :: F, [], v, _, _ => ⟨(fun l r c _ h => by cases h), fun i _ => rfl⟩
  | r :: F, c :: C, v, hn, hc => by
    rw [List.nodup_cons] at hn
    have hcv := hc c List.mem_cons_self
    obtain ⟨h1, h2⟩ := fill_at k F C (v.set c (r.getD k false)) hn.2 fun x hx => by
      rw [List.length_set]; exact hc x (List.mem_cons_of_mem _ hx)
    have e : fillB k v ((r :: F).zip (c :: C)) = fillB k (v.set c (r.getD k false)) (F.zip C) := rfl
    rw [e]
    constructor
    · intro l r' c' hl hc'
      cases l with
      | zero =>
        cases hl; cases hc'
        rw [h2 c hn.1, fn_set hcv, if_pos rfl]; rfl
      | succ l => exact h1 l r' c' hl hc'
    · intro i hi
      rw [List.mem_cons, not_or] at hi
      rw [h2 i hi.2, fn_set hcv, if_neg hi.1]
theorem fn_rep (w : Nat) (i : Nat) : fn (List.replicate w false) i = false := by
  unfold fn
  rw [List.getD_eq_getElem?_getD, List.getElem?_replicate]
  split <;> rfl
end NK01
end

section
set_option Elab.async false
set_option linter.all false
namespace NK01
open PySem Z
theorem nd_le {α : Type} [BEq α] [LawfulBEq α] : ∀ {A B : List α}, A.Nodup → (∀ x ∈ A, x ∈ B) → A.length ≤ B.length
  | [], _, _, _ => Nat.zero_le _
  | x :: A, B, hn, h => by
    rw [List.nodup_cons] at hn
    have hx := h x List.mem_cons_self
    have := nd_le (A := A) (B := B.erase x) hn.2 fun y hy => by
      have hne : y ≠ x := fun e => hn.1 (e ▸ hy)
      exact (List.mem_erase_of_ne hne).mpr (h y (List.mem_cons_of_mem _ hy))
    rw [List.length_erase_of_mem hx] at this
    have hp : 0 < B.length := List.length_pos_of_mem hx
    rw [List.length_cons]; omega
theorem nd_map {α β : Type} {f : α → β} : ∀ {A : List α}, A.Nodup → (∀ x ∈ A, ∀ y ∈ A, f x = f y → x = y) → (A.map f).Nodup
  | [], _, _ => List.nodup_nil
  | x :: A, hn, h => by
    rw [List.nodup_cons] at hn
    rw [List.map_cons, List.nodup_cons]
    refine ⟨fun hm => ?_, nd_map hn.2 fun a ha b hb => h a (List.mem_cons_of_mem _ ha) b (List.mem_cons_of_mem _ hb)⟩
    obtain ⟨y, hy, e⟩ := List.mem_map.mp hm
    have := h y (List.mem_cons_of_mem _ hy) x List.mem_cons_self e
    rw [this] at hy
    exact hn.1 hy
theorem nd_filter {α : Type} {A : List α} (p : α → Bool) (h : A.Nodup) : (A.filter p).Nodup := List.Pairwise.sublist List.filter_sublist h
theorem nd_range (n : Nat) : (List.range n).Nodup := List.nodup_range
theorem filter_two {α : Type} (p : α → Bool) : ∀ l : List α, (l.filter p).length + (l.filter fun x => !p x).length = l.length
  | [] => rfl
  | x :: l => by
    have := filter_two p l
    rw [List.filter_cons, List.filter_cons, List.length_cons]
    cases hp : p x with
    | true => simp [hp]; omega
    | false => simp [hp]; omega
theorem nd_idx {α : Type} {x : α} : ∀ (l : List α), l.Nodup → ∀ {i j : Nat}, l[i]? = some x → l[j]? = some x → i = j
  | y :: l, hn, 0, 0, _, _ => rfl
  | y :: l, hn, 0, j + 1, h1, h2 => by
    have e : y = x := by simpa using h1
    have h2 : l[j]? = some x := by simpa using h2
    exact absurd (e ▸ List.mem_of_getElem? h2) (List.nodup_cons.mp hn).1
  | y :: l, hn, i + 1, 0, h1, h2 => by
    have e : y = x := by simpa using h2
    have h1 : l[i]? = some x := by simpa using h1
    exact absurd (e ▸ List.mem_of_getElem? h1) (List.nodup_cons.mp hn).1
  | y :: l, hn, i + 1, j + 1, h1, h2 => by
    rw [nd_idx l (List.nodup_cons.mp hn).2 (i := i) (j := j) h1 h2]
theorem free_len {w : Nat} {C : List Nat} (hn : C.Nodup) (hc : ∀ c ∈ C, c < w) : C.length ≤ w ∧ (freeB w C).length = w - C.length := by
  have h1 := nd_le hn fun c h => List.mem_range.mpr (hc c h)
  rw [List.length_range] at h1
  have h2 := filter_two (fun i => decide (i ∈ C)) (List.range w)
  have h3 : ((List.range w).filter fun i => decide (i ∈ C)).length = C.length := by
    refine Nat.le_antisymm (nd_le (nd_filter _ (nd_range w)) fun x hx => ?_) (nd_le hn fun c h => ?_)
    · exact of_decide_eq_true (List.mem_filter.mp hx).2
    · exact List.mem_filter.mpr ⟨List.mem_range.mpr (hc c h), decide_eq_true h⟩
  rw [List.length_range] at h2
  refine ⟨h1, ?_⟩
  unfold freeB
  omega
theorem mem_free {w : Nat} {C : List Nat} {f : Nat} : f ∈ freeB w C ↔ f < w ∧ f ∉ C := by
  unfold freeB
  rw [List.mem_filter, List.mem_range]
  simp
theorem idx_of {α : Type} {l : List α} {x : α} (h : x ∈ l) : ∃ i : Nat, l[i]? = some x := List.getElem?_of_mem h
section
variable (s : Sy) (ok : s.Ok)
include ok
theorem fact_rk : rankB s ≤ s.w := (free_len (redB_inv ok.r s.w).nd (redB_inv ok.r s.w).lt).1
theorem fact_ql : (quietB s).length = s.w - rankB s := by
  unfold quietB
  rw [List.length_map]
  exact (free_len (redB_inv ok.r s.w).nd (redB_inv ok.r s.w).lt).2
/-- the vector of a free column, place by place -/
theorem vec_at (f : Nat) (hf : f ∈ freeB s.w (redB s.rows s.w).2.2) : (∀ (l : Nat) (r : Row) (c : Nat), (redB s.rows s.w).2.1[l]? = some r → (redB s.rows s.w).2.2[l]? = some c → fn (vecB s.w (redB s.rows s.w).2.1 (redB s.rows s.w).2.2 f) c = fn r f) ∧ ∀ i, i ∉ (redB s.rows s.w).2.2 → fn (vecB s.w (redB s.rows s.w).2.1 (redB s.rows s.w).2.2 f) i = decide (i = f) := by
  have hi := redB_inv ok.r s.w
  obtain ⟨hfw, hfC⟩ := mem_free.mp hf
  obtain ⟨h1, h2⟩ := fill_at f (redB s.rows s.w).2.1 (redB s.rows s.w).2.2 ((List.replicate s.w false).set f true) hi.nd fun c hc => by
    rw [List.length_set, List.length_replicate]; exact hi.lt c hc
  refine ⟨h1, fun i hiC => ?_⟩
  have := h2 i hiC
  rw [fn_set (by rw [List.length_replicate]; exact hfw), fn_rep] at this
  unfold vecB
  rw [this]
  by_cases e : i = f <;> simp [e]
theorem found_len : ∀ r ∈ (redB s.rows s.w).2.1, r.length = s.w := (redB_ln ok.r s.w).f
theorem col_of {l : Nat} {r : Row} (h : (redB s.rows s.w).2.1[l]? = some r) : ∃ c, (redB s.rows s.w).2.2[l]? = some c ∧ c < s.w := by
  have hlt : l < (redB s.rows s.w).2.2.length := by
    rw [(redB_ln ok.r s.w).cf]; exact (List.getElem?_eq_some_iff.mp h).1
  exact ⟨_, List.getElem?_eq_getElem hlt, (redB_inv ok.r s.w).lt _ (List.getElem_mem hlt)⟩
theorem row_of {l c : Nat} (h : (redB s.rows s.w).2.2[l]? = some c) : ∃ r, (redB s.rows s.w).2.1[l]? = some r := by
  have hlt : l < (redB s.rows s.w).2.1.length := by
    rw [← (redB_ln ok.r s.w).cf]; exact (List.getElem?_eq_some_iff.mp h).1
  exact ⟨_, List.getElem?_eq_getElem hlt⟩
theorem quiet_found (f : Nat) (hf : f ∈ freeB s.w (redB s.rows s.w).2.2) (r : Row) (hr : r ∈ (redB s.rows s.w).2.1) : dotV s.w (fn r) (fn (vecB s.w (redB s.rows s.w).2.1 (redB s.rows s.w).2.2 f)) = false := by
  have hi := redB_inv ok.r s.w
  obtain ⟨hfw, hfC⟩ := mem_free.mp hf
  obtain ⟨h1, h2⟩ := vec_at s ok f hf
  obtain ⟨j, hj⟩ := idx_of hr
  obtain ⟨c, hc, hcw⟩ := col_of s ok hj
  have hcf : c ≠ f := fun e => hfC (e ▸ List.mem_of_getElem? hc)
  have e : dotV s.w (fn r) (fn (vecB s.w (redB s.rows s.w).2.1 (redB s.rows s.w).2.2 f)) = dotV s.w (fun _ => fn r f) (ad (un f) (un c)) := by
    refine dotV_congr fun i _ => ?_
    by_cases hiC : i ∈ (redB s.rows s.w).2.2
    · obtain ⟨l, hl⟩ := idx_of hiC
      obtain ⟨r', hr'⟩ := row_of s ok hl
      rw [h1 l r' i hr' hl, hi.u j l r i hj hl]
      have hif : ¬ i = f := fun e => hfC (e ▸ hiC)
      by_cases ejl : j = l
      · subst ejl
        rw [hj] at hr'
        cases hr'
        rw [hc] at hl
        cases hl
        simp [ad, un, hcf]
      · have hic : ¬ i = c := fun e => by
          have u1 := hi.u j l r i hj hl
          have u2 := hi.u j j r c hj hc
          rw [e, u2] at u1
          simp at u1
          exact ejl u1
        simp [ad, un, hif, hic, ejl]
    · rw [h2 i hiC]
      have hic : ¬ i = c := fun e => hiC (e ▸ List.mem_of_getElem? hc)
      by_cases e : i = f
      · subst e
        simp [ad, un, hic]
      · simp [ad, un, hic, e]
  rw [e, dotV_ad, dotV_un _ _ _ hfw, dotV_un _ _ _ hcw]
  simp
theorem fact_qo : (s.rows.all fun r => (quietB s).all fun x => !dotB r x) = true := by
  rw [List.all_eq_true]
  intro r hr
  rw [List.all_eq_true]
  intro x hx
  unfold quietB at hx
  obtain ⟨f, hf, rfl⟩ := List.mem_map.mp hx
  rw [dotB_V _ (Nat.le_of_eq (ok.r r hr))]
  have := Sp.ind (P := fun u => dotV s.w u (fn (vecB s.w (redB s.rows s.w).2.1 (redB s.rows s.w).2.2 f)) = false) (T := (redB s.rows s.w).2.1.map fn) (dotV_zero _ fun i _ => rfl) (fun a b ha hb => by rw [dotV_ad', ha, hb]; rfl) (fun y hy => by
    obtain ⟨r', hr', rfl⟩ := List.mem_map.mp hy
    exact quiet_found s ok f hf r' hr') ((sp_found ok.r (fn r)).mpr (Sp.mem (List.mem_map_of_mem hr)))
  rw [this]; rfl
theorem fact_qa : apartB (quietB s) s.w = true := by
  have hqw : ∀ r ∈ quietB s, r.length = s.w := by
    intro r hr
    unfold quietB at hr
    obtain ⟨f, _, rfl⟩ := List.mem_map.mp hr
    exact vecB_len _ _ _ _
  rw [apartB_iff hqw]
  apply Du.ap
  intro l r hl
  unfold quietB at hl
  rw [List.getElem?_map] at hl
  have hnd : (freeB s.w (redB s.rows s.w).2.2).Nodup := nd_filter _ (nd_range s.w)
  cases hf : (freeB s.w (redB s.rows s.w).2.2)[l]? with
  | none => rw [hf] at hl; cases hl
  | some f =>
    rw [hf] at hl
    cases hl
    have hfm := List.mem_of_getElem? hf
    have hfC := (mem_free.mp hfm).2
    refine ⟨f, by rw [(vec_at s ok f hfm).2 f hfC]; simp, fun l' r' hl' hne => ?_⟩
    unfold quietB at hl'
    rw [List.getElem?_map] at hl'
    cases hf' : (freeB s.w (redB s.rows s.w).2.2)[l']? with
    | none => rw [hf'] at hl'; cases hl'
    | some f' =>
      rw [hf'] at hl'
      cases hl'
      have hfm' := List.mem_of_getElem? hf'
      rw [(vec_at s ok f' hfm').2 f hfC]
      refine decide_eq_false fun e => hne ?_
      subst e
      exact nd_idx _ hnd hf' hf
end
end NK01
end

section
set_option Elab.async false
set_option linter.all false
namespace NK01
open PySem Z
theorem add_add {x e : Row} (h : e.length = x.length) : addB (addB x e) e = x := by
  have l1 : (addB x e).length = x.length := addB_len rfl h
  refine fn_inj (addB_len l1 h) ?_
  rw [fn_add (by rw [l1, h]), fn_add h.symm, ad_can]
theorem dotB_add {r x e : Row} (h : x.length = e.length) : dotB r (addB x e) = xor (dotB r x) (dotB r e) := by
  rw [dotB_V (n := r.length) _ (Nat.le_refl _), dotB_V (n := r.length) _ (Nat.le_refl _), dotB_V (n := r.length) _ (Nat.le_refl _), fn_add h, dotV_ad]
def kerB (w : Nat) (F : List Row) : List Row := (allB w).filter fun x => F.all fun r => !dotB r x
theorem mem_ker {w : Nat} {F : List Row} {x : Row} : x ∈ kerB w F ↔ x.length = w ∧ ∀ r ∈ F, dotB r x = false := by
  unfold kerB
  rw [List.mem_filter, allB_mem, List.all_eq_true]
  simp
theorem ker_half {w : Nat} {F : List Row} {r e : Row} (he : e.length = w) (h1 : dotB r e = true) (h2 : ∀ r' ∈ F, dotB r' e = false) : (kerB w (r :: F)).length * 2 = (kerB w F).length := by
  have hnd : (kerB w F).Nodup := nd_filter _ (allB_nodup w)
  have hA : (kerB w (r :: F)).length = ((kerB w F).filter fun x => !dotB r x).length := by
    unfold kerB
    rw [List.filter_filter]
    congr 2
  have ht := filter_two (fun x => dotB r x) (kerB w F)
  have inj : ∀ x ∈ kerB w F, ∀ y ∈ kerB w F, addB x e = addB y e → x = y := fun x hx y hy h => by
    have : addB (addB x e) e = addB (addB y e) e := by rw [h]
    rw [add_add (by rw [he, (mem_ker.mp hx).1]), add_add (by rw [he, (mem_ker.mp hy).1])] at this
    exact this
  have mv : ∀ x ∈ kerB w F, addB x e ∈ kerB w F ∧ dotB r (addB x e) = !dotB r x := fun x hx => by
    obtain ⟨hl, hz⟩ := mem_ker.mp hx
    have hle : x.length = e.length := by rw [hl, he]
    refine ⟨mem_ker.mpr ⟨addB_len hl he, fun r' hr' => ?_⟩, ?_⟩
    · rw [dotB_add hle, hz r' hr', h2 r' hr']; rfl
    · rw [dotB_add hle, h1]; simp
  have le1 : ((kerB w F).filter fun x => !dotB r x).length ≤ ((kerB w F).filter fun x => dotB r x).length := by
    have := nd_le (A := ((kerB w F).filter fun x => !dotB r x).map fun x => addB x e) (B := (kerB w F).filter fun x => dotB r x) (nd_map (nd_filter _ hnd) fun x hx y hy => inj x (List.mem_filter.mp hx).1 y (List.mem_filter.mp hy).1) fun y hy => by
      obtain ⟨x, hx, rfl⟩ := List.mem_map.mp hy
      obtain ⟨hx1, hx2⟩ := List.mem_filter.mp hx
      obtain ⟨m1, m2⟩ := mv x hx1
      exact List.mem_filter.mpr ⟨m1, by rw [m2]; exact hx2⟩
    rw [List.length_map] at this
    exact this
  have le2 : ((kerB w F).filter fun x => dotB r x).length ≤ ((kerB w F).filter fun x => !dotB r x).length := by
    have := nd_le (A := ((kerB w F).filter fun x => dotB r x).map fun x => addB x e) (B := (kerB w F).filter fun x => !dotB r x) (nd_map (nd_filter _ hnd) fun x hx y hy => inj x (List.mem_filter.mp hx).1 y (List.mem_filter.mp hy).1) fun y hy => by
      obtain ⟨x, hx, rfl⟩ := List.mem_map.mp hy
      obtain ⟨hx1, hx2⟩ := List.mem_filter.mp hx
      obtain ⟨m1, m2⟩ := mv x hx1
      exact List.mem_filter.mpr ⟨m1, by rw [m2, hx2]; rfl⟩
    rw [List.length_map] at this
    exact this
  omega
def unit (w i : Nat) : Row := (List.replicate w false).set i true
theorem unit_len (w i : Nat) : (unit w i).length = w := by
  unfold unit; rw [List.length_set, List.length_replicate]
theorem dot_unit {w i : Nat} {r : Row} (hr : r.length = w) (hi : i < w) : dotB r (unit w i) = fn r i := by
  rw [dotB_V _ (Nat.le_of_eq hr)]
  have : fn (unit w i) = un i := by
    funext j
    unfold unit
    rw [fn_set (by rw [List.length_replicate]; exact hi), fn_rep]
    by_cases e : j = i <;> simp [un, e]
  rw [this, dotV_un _ _ _ hi]
theorem ker_count {w : Nat} : ∀ {F : List Row}, (∀ r ∈ F, r.length = w) → Du F → (kerB w F).length * 2 ^ F.length = 2 ^ w
  | [], _, _ => by
    have : kerB w [] = allB w := List.filter_eq_self.mpr fun _ _ => rfl
    rw [this, allB_len]; simp
  | r :: F, h, hd => by
    obtain ⟨i, h1, h2⟩ := hd 0 r rfl
    have hrl := h r List.mem_cons_self
    have hiw : i < w := Nat.lt_of_not_le fun hle => by
      rw [fn_out (by rw [hrl]; exact hle)] at h1; cases h1
    have hh := ker_half (F := F) (unit_len w i) (by rw [dot_unit hrl hiw]; exact h1) fun r' hr' => by
      rw [dot_unit (h r' (List.mem_cons_of_mem _ hr')) hiw]
      obtain ⟨l, hl⟩ := idx_of hr'
      exact h2 (l + 1) r' hl (by omega)
    have ih := ker_count (fun x hx => h x (List.mem_cons_of_mem _ hx)) hd.tail
    rw [List.length_cons, Nat.pow_succ, Nat.mul_comm (2 ^ F.length) 2, ← Nat.mul_assoc, hh]
    exact ih
section
variable (s : Sy) (ok : s.Ok)
include ok
theorem ker_rows : kerB s.w s.rows = kerB s.w (redB s.rows s.w).2.1 := by
  unfold kerB
  refine List.filter_congr fun x hx => ?_
  have hfl := found_len s ok
  have key : (∀ r ∈ s.rows, dotB r x = false) ↔ ∀ r ∈ (redB s.rows s.w).2.1, dotB r x = false := by
    have sp := sp_found ok.r
    have step : ∀ (A B : List Row), (∀ r ∈ A, r.length = s.w) → (∀ r ∈ B, r.length = s.w) → (∀ r ∈ B, Sp (A.map fn) (fn r)) → (∀ r ∈ A, dotB r x = false) → ∀ r ∈ B, dotB r x = false := by
      intro A B hA hB hS h r hr
      rw [dotB_V _ (Nat.le_of_eq (hB r hr))]
      exact Sp.ind (P := fun u => dotV s.w u (fn x) = false) (dotV_zero _ fun i _ => rfl) (fun a b ha hb => by rw [dotV_ad', ha, hb]; rfl) (fun y hy => by
        obtain ⟨r', hr', rfl⟩ := List.mem_map.mp hy
        rw [← dotB_V _ (Nat.le_of_eq (hA r' hr'))]
        exact h r' hr') (hS r hr)
    exact ⟨step _ _ ok.r hfl fun r hr => (sp (fn r)).mp (Sp.mem (List.mem_map_of_mem hr)), step _ _ hfl ok.r fun r hr => (sp (fn r)).mpr (Sp.mem (List.mem_map_of_mem hr))⟩
  have e : ∀ F : List Row, (F.all fun r => !dotB r x) = true ↔ ∀ r ∈ F, dotB r x = false := fun F => by
    rw [List.all_eq_true]; simp
  rw [Bool.eq_iff_iff, e, e]
  exact key
theorem ker_len : (kerB s.w s.rows).length = 2 ^ (s.w - rankB s) := by
  have h := ker_count (found_len s ok) (redB_du ok.r s.w)
  rw [← ker_rows s ok] at h
  have hr : (redB s.rows s.w).2.1.length = rankB s := (redB_ln ok.r s.w).cf.symm
  have hle := fact_rk s ok
  rw [hr] at h
  have e : 2 ^ s.w = 2 ^ (s.w - rankB s) * 2 ^ rankB s := by
    rw [← Nat.pow_add]; congr 1; omega
  rw [e] at h
  exact Nat.eq_of_mul_eq_mul_right (Nat.pow_pos (by decide)) h
theorem fact_cnt : (fitsB s).length = 0 ∨ (fitsB s).length = 2 ^ (s.w - rankB s) := by
  cases hF : fitsB s with
  | nil => exact .inl rfl
  | cons x0 T =>
    right
    rw [← hF, ← ker_len s ok]
    have hx0 : x0 ∈ fitsB s := by rw [hF]; exact List.mem_cons_self
    obtain ⟨l0, e0⟩ := (mem_fits s ok).mp hx0
    have nf : (fitsB s).Nodup := nd_filter _ (allB_nodup s.w)
    have nk : (kerB s.w s.rows).Nodup := nd_filter _ (allB_nodup s.w)
    have at0 : ∀ x : Row, x.length = s.w → (s.rows.map (fun r => dotB r x) = s.right ↔ ∀ r ∈ s.rows, dotB r x = dotB r x0) := fun x hx => by
      rw [← e0, List.map_inj_left]
    have inj : ∀ x y : Row, x.length = s.w → y.length = s.w → addB x x0 = addB y x0 → x = y := fun x y hx hy h => by
      have : addB (addB x x0) x0 = addB (addB y x0) x0 := by rw [h]
      rw [add_add (by rw [l0, hx]), add_add (by rw [l0, hy])] at this
      exact this
    have le1 := nd_le (A := (fitsB s).map fun x => addB x x0) (B := kerB s.w s.rows) (nd_map nf fun x hx y hy => inj x y ((mem_fits s ok).mp hx).1 ((mem_fits s ok).mp hy).1) fun y hy => by
      obtain ⟨x, hx, rfl⟩ := List.mem_map.mp hy
      obtain ⟨hl, hz⟩ := (mem_fits s ok).mp hx
      have hz := (at0 x hl).mp hz
      refine mem_ker.mpr ⟨addB_len hl l0, fun r hr => ?_⟩
      rw [dotB_add (by rw [hl, l0]), hz r hr]; simp
    have le2 := nd_le (A := (kerB s.w s.rows).map fun x => addB x x0) (B := fitsB s) (nd_map nk fun x hx y hy => inj x y (mem_ker.mp hx).1 (mem_ker.mp hy).1) fun y hy => by
      obtain ⟨x, hx, rfl⟩ := List.mem_map.mp hy
      obtain ⟨hl, hz⟩ := mem_ker.mp hx
      have l1 : (addB x x0).length = s.w := addB_len hl l0
      refine (mem_fits s ok).mpr ⟨l1, (at0 _ l1).mpr fun r hr => ?_⟩
      rw [dotB_add (by rw [hl, l0]), hz r hr]; simp
    rw [List.length_map] at le1 le2
    exact Nat.le_antisymm le1 le2
end
end NK01
end

section
set_option Elab.async false
set_option linter.all false
namespace NK01
open PySem Z
theorem fn_app (a b : Row) (i : Nat) : fn (a ++ b) i = if i < a.length then fn a i else fn b (i - a.length) := by
  unfold fn
  rw [List.getD_eq_getElem?_getD, List.getD_eq_getElem?_getD, List.getD_eq_getElem?_getD]
  by_cases h : i < a.length
  · rw [if_pos h, List.getElem?_append_left h]
  · rw [if_neg h, List.getElem?_append_right (by omega)]
theorem fn_drop (a : Row) (k j : Nat) : fn (a.drop k) j = fn a (k + j) := by
  unfold fn
  rw [List.getD_eq_getElem?_getD, List.getD_eq_getElem?_getD, List.getElem?_drop]
def colX (s : Sy) (i : Nat) : Row := if i < s.w then s.rows.map fun r => r.getD i false else s.right
def Gr (s : Sy) (u : Vec) : Prop := ∀ i, i ≤ s.w → u i = dotV s.rows.length (fn (colX s i)) (fun j => u (s.w + 1 + j))
section
variable (s : Sy) (ok : s.Ok)
include ok
theorem Gr.zero : Gr s zv := fun i _ => (dotV_zero _ fun j _ => by simp [zv]).symm
theorem Gr.add (a b : Vec) (ha : Gr s a) (hb : Gr s b) : Gr s (ad a b) := fun i hi => by
  have e : (fun j => ad a b (s.w + 1 + j)) = ad (fun j => a (s.w + 1 + j)) (fun j => b (s.w + 1 + j)) := rfl
  rw [e, dotV_ad, ← ha i hi, ← hb i hi]; rfl
theorem row_len {k : Nat} (hk : k < s.rows.length) : (s.rows.getD k []).length = s.w ∧ s.rows[k]? = some (s.rows.getD k []) := by
  rw [List.getD_eq_getElem?_getD, List.getElem?_eq_getElem hk]
  exact ⟨ok.r _ (List.getElem_mem hk), rfl⟩
theorem wid_lo {k : Nat} (hk : k < s.rows.length) {i : Nat} (hi : i < s.w) : fn (widR s k) i = fn (s.rows.getD k []) i := by
  unfold widR
  rw [fn_app, fn_app]
  have := (row_len s ok hk).1
  rw [if_pos (by rw [List.length_append, List.length_singleton, this]; omega), if_pos (by rw [this]; exact hi)]
theorem wid_w {k : Nat} (hk : k < s.rows.length) : fn (widR s k) s.w = fn s.right k := by
  unfold widR
  rw [fn_app, fn_app]
  have := (row_len s ok hk).1
  rw [if_pos (by rw [List.length_append, List.length_singleton, this]; omega), if_neg (by rw [this]; omega), this, Nat.sub_self]
  rfl
theorem wid_hi {k : Nat} (hk : k < s.rows.length) {j : Nat} (hj : j < s.rows.length) : fn (widR s k) (s.w + 1 + j) = un k j := by
  unfold widR
  rw [fn_app]
  have := (row_len s ok hk).1
  rw [if_neg (by rw [List.length_append, List.length_singleton, this]; omega)]
  rw [List.length_append, List.length_singleton, this]
  have e : s.w + 1 + j - (s.w + 1) = j := by omega
  rw [e]
  unfold fn
  rw [List.getD_eq_getElem?_getD, List.getElem?_map, List.getElem?_range hj]
  show (j == k) = decide (j = k)
  by_cases h : j = k
  · subst h; simp
  · simp [h]
theorem Gr.wid {k : Nat} (hk : k < s.rows.length) : Gr s (fn (widR s k)) := fun i hi => by
  have e : dotV s.rows.length (fn (colX s i)) (fun j => fn (widR s k) (s.w + 1 + j)) = dotV s.rows.length (fn (colX s i)) (un k) := dotV_congr fun j hj => by
    rw [wid_hi s ok hk hj]
  rw [e, dotV_un _ _ _ hk]
  rcases Nat.lt_or_ge i s.w with h | h
  · rw [wid_lo s ok hk h]
    unfold colX
    rw [if_pos h]
    unfold fn
    rw [List.getD_eq_getElem?_getD (l := s.rows.map _), List.getElem?_map, (row_len s ok hk).2]
    rfl
  · have : i = s.w := by omega
    subst this
    rw [wid_w s ok hk]
    unfold colX
    rw [if_neg (Nat.lt_irrefl _)]
theorem Gr.of {u : Vec} (h : Sp ((widB s).map fn) u) : Gr s u := Sp.ind (Gr.zero s ok) (Gr.add s ok) (fun x hx => by
  obtain ⟨r, hr, rfl⟩ := List.mem_map.mp hx
  unfold widB at hr
  obtain ⟨k, hk, rfl⟩ := List.mem_map.mp hr
  exact Gr.wid s ok (List.mem_range.mp hk)) h
theorem no_of_mask {y : Row} (hy : y ∈ masksB s) : fitsB s = [] := by
  cases h : fitsB s with
  | nil => rfl
  | cons x T => exact (not_both s ok (x := x) (by rw [h]; exact List.mem_cons_self) hy).elim
theorem no_of_fit {x : Row} (hx : x ∈ fitsB s) : masksB s = [] := by
  cases h : masksB s with
  | nil => rfl
  | cons y T => exact (not_both s ok (y := y) hx (by rw [h]; exact List.mem_cons_self)).elim
/-- the row that ends with the right side -/
theorem mask_row (hw : s.w ∈ (redB (widB s) (s.w + 1)).2.2) : ∃ p, (redB (widB s) (s.w + 1)).2.1[(redB (widB s) (s.w + 1)).2.2.idxOf s.w]? = some p ∧ fn p s.w = true ∧ (∀ i, i < s.w → fn p i = false) ∧ p.length = s.w + 1 + s.rows.length ∧ Gr s (fn p) := by
  have hr := widB_len s ok
  have ln := redB_ln hr (s.w + 1)
  have iv := redB_inv hr (s.w + 1)
  have l0 := redB_ln hr s.w
  have i0 := redB_inv hr s.w
  have hlt : (redB (widB s) (s.w + 1)).2.2.idxOf s.w < (redB (widB s) (s.w + 1)).2.2.length := List.idxOf_lt_length_iff.mpr hw
  have hC : (redB (widB s) (s.w + 1)).2.2[(redB (widB s) (s.w + 1)).2.2.idxOf s.w]? = some s.w := by
    rw [List.getElem?_eq_getElem hlt, List.getElem_idxOf hlt]
  generalize (redB (widB s) (s.w + 1)).2.2.idxOf s.w = l at hC hlt ⊢
  have hF : l < (redB (widB s) (s.w + 1)).2.1.length := by rw [← ln.cf]; exact hlt
  obtain ⟨p, hp⟩ : ∃ p, (redB (widB s) (s.w + 1)).2.1[l]? = some p := ⟨_, List.getElem?_eq_getElem hF⟩
  have hpm := List.mem_of_getElem? hp
  have hp1 : fn p s.w = true := by rw [iv.u l l p s.w hp hC]; exact decide_eq_true rfl
  refine ⟨p, hp, hp1, ?_, ln.f p hpm, Gr.of s ok ((iv.sp _).mp (Sp.mem (List.mem_map_of_mem (List.mem_append.mpr (.inr hpm)))))⟩
  rw [redB_succ] at hC hp
  have hz := i0.z
  have hltC := i0.lt
  have hcf := l0.cf
  generalize redB (widB s) s.w = q at hC hp hz hltC hcf
  obtain ⟨L, F, C⟩ := q
  unfold stepB at hC hp
  simp only at hC hp hz hltC hcf
  split at hC
  · exact absurd (hltC _ (List.mem_of_getElem? hC)) (Nat.lt_irrefl _)
  · rename_i p0 q0 hf
    rw [hf] at hp
    simp only at hC hp
    have hp0 : p0 ∈ L := (List.mem_filter.mp (by rw [hf]; exact List.mem_cons_self : p0 ∈ L.filter (·.getD s.w false))).1
    rcases Nat.lt_or_ge l C.length with hl | hl
    · rw [List.getElem?_append_left hl] at hC
      exact absurd (hltC _ (List.mem_of_getElem? hC)) (Nat.lt_irrefl _)
    · rw [List.getElem?_append_right (by rw [List.length_map, ← hcf]; exact hl), List.length_map, ← hcf] at hp
      have e0 : l - C.length = 0 := by
        rcases Nat.eq_zero_or_pos (l - C.length) with e | e
        · exact e
        · rw [List.getElem?_eq_none (by rw [List.length_singleton]; omega)] at hp; cases hp
      rw [e0] at hp
      cases hp
      exact hz _ hp0
theorem fact_st2 (y : Row) (h : settB s = (false, y)) : y ∈ masksB s ∧ fitsB s = [] := by
  unfold settB at h
  simp only at h
  split at h
  · rename_i hw
    obtain ⟨p, hp, h1, h0, hpl, hg⟩ := mask_row s ok hw
    rw [List.getD_eq_getElem?_getD, hp, Option.getD_some] at h
    have hy : y = p.drop (s.w + 1) := by
      have := congrArg Prod.snd h
      exact this.symm
    have hyl : y.length = s.rows.length := by rw [hy, List.length_drop, hpl]; omega
    have hfy : (fun j => fn p (s.w + 1 + j)) = fn y := by
      funext j; rw [hy, fn_drop]
    have hm : y ∈ masksB s := by
      refine (mem_masks s ok).mpr ⟨hyl, ?_, ?_⟩
      · have := hg s.w (Nat.le_refl _)
        rw [hfy, h1] at this
        unfold colX at this
        rw [if_neg (Nat.lt_irrefl _)] at this
        rw [dotB_V _ (Nat.le_of_eq ok.l)]
        exact this.symm
      · funext i
        rcases Nat.lt_or_ge i s.w with hi | hi
        · have := hg i (Nat.le_of_lt hi)
          rw [hfy, h0 i hi] at this
          unfold colX at this
          rw [if_pos hi] at this
          rw [sum_col, dotB_V (n := s.rows.length) _ (by rw [List.length_map]; exact Nat.le_refl _)]
          exact this.symm
        · show xa ((chosenB s.rows y).map fun r => fn r i) = false
          have e : ((chosenB s.rows y).map fun r => fn r i) = (chosenB s.rows y).map fun _ => false := List.map_congr_left fun r hr => fn_out (by rw [ok.r r (chosen_sub r hr)]; exact hi)
          rw [e]; exact xa_false _
    exact ⟨hm, no_of_mask s ok hm⟩
  · cases h
theorem fact_st1 (x : Row) (h : settB s = (true, x)) : x ∈ fitsB s ∧ masksB s = [] := by
  unfold settB at h
  simp only at h
  split at h
  · cases h
  · rename_i hw
    have hr := widB_len s ok
    have ln := redB_ln hr (s.w + 1)
    have iv := redB_inv hr (s.w + 1)
    have hx : x = fillB s.w (List.replicate s.w false) ((redB (widB s) (s.w + 1)).2.1.zip (redB (widB s) (s.w + 1)).2.2) := by
      have := congrArg Prod.snd h
      exact this.symm
    have hxl : x.length = s.w := by rw [hx, fillB_len, List.length_replicate]
    have hcw : ∀ c ∈ (redB (widB s) (s.w + 1)).2.2, c < s.w := fun c hc => by
      have := iv.lt c hc
      have hne : c ≠ s.w := fun e => hw (e ▸ hc)
      omega
    obtain ⟨f1, f2⟩ := fill_at s.w (redB (widB s) (s.w + 1)).2.1 (redB (widB s) (s.w + 1)).2.2 (List.replicate s.w false) iv.nd (fun c hc => by rw [List.length_replicate]; exact hcw c hc)
    rw [← hx] at f1 f2
    have hall : ∀ r ∈ (redB (widB s) (s.w + 1)).1 ++ (redB (widB s) (s.w + 1)).2.1, dotV (s.w + 1 + s.rows.length) (fn r) (ad (fn x) (un s.w)) = false := by
      intro r hrm
      rcases List.mem_append.mp hrm with hrm | hrm
      · refine dotV_zero _ fun i _ => ?_
        rcases Nat.lt_or_ge i (s.w + 1) with hi | hi
        · rw [iv.z r hrm i hi]; rfl
        · have e1 : fn x i = false := fn_out (by rw [hxl]; omega)
          have e2 : ¬ i = s.w := by omega
          simp [ad, un, e1, e2]
      · obtain ⟨j, hj⟩ := idx_of hrm
        have hjl : j < (redB (widB s) (s.w + 1)).2.2.length := by rw [ln.cf]; exact (List.getElem?_eq_some_iff.mp hj).1
        obtain ⟨c, hc⟩ : ∃ c, (redB (widB s) (s.w + 1)).2.2[j]? = some c := ⟨_, List.getElem?_eq_getElem hjl⟩
        have hcm := hcw c (List.mem_of_getElem? hc)
        rw [dotV_ad, dotV_un _ _ _ (by omega)]
        have e : dotV (s.w + 1 + s.rows.length) (fn r) (fn x) = dotV (s.w + 1 + s.rows.length) (fun _ => fn r s.w) (un c) := by
          refine dotV_congr fun i _ => ?_
          by_cases hiC : i ∈ (redB (widB s) (s.w + 1)).2.2
          · obtain ⟨l, hl⟩ := idx_of hiC
            have hll : l < (redB (widB s) (s.w + 1)).2.1.length := by rw [← ln.cf]; exact (List.getElem?_eq_some_iff.mp hl).1
            obtain ⟨r', hr'⟩ : ∃ r', (redB (widB s) (s.w + 1)).2.1[l]? = some r' := ⟨_, List.getElem?_eq_getElem hll⟩
            rw [f1 l r' i hr' hl, iv.u j l r i hj hl]
            by_cases ejl : j = l
            · subst ejl
              rw [hj] at hr'
              cases hr'
              rw [hc] at hl
              cases hl
              simp [un]
            · have hic : ¬ i = c := fun e => by
                have u1 := iv.u j l r i hj hl
                have u2 := iv.u j j r c hj hc
                rw [e, u2] at u1
                simp at u1
                exact ejl u1
              simp [un, hic, ejl]
          · rw [f2 i hiC, fn_rep]
            have hic : ¬ i = c := fun e => hiC (e ▸ List.mem_of_getElem? hc)
            simp [un, hic]
        rw [e, dotV_un _ _ _ (by omega)]
        simp
    have hwid : ∀ k, k < s.rows.length → dotB (s.rows.getD k []) x = fn s.right k := by
      intro k hk
      have hm : widR s k ∈ widB s := by
        unfold widB
        exact List.mem_map_of_mem (List.mem_range.mpr hk)
      have := Sp.ind (P := fun u => dotV (s.w + 1 + s.rows.length) u (ad (fn x) (un s.w)) = false) (dotV_zero _ fun i _ => rfl) (fun a b ha hb => by rw [dotV_ad', ha, hb]; rfl) (fun y hy => by
        obtain ⟨r, hr', rfl⟩ := List.mem_map.mp hy
        exact hall r hr') ((iv.sp _).mpr (Sp.mem (List.mem_map_of_mem hm)))
      rw [dotV_ad, dotV_un _ _ _ (by omega), wid_w s ok hk] at this
      have e : dotV (s.w + 1 + s.rows.length) (fn (widR s k)) (fn x) = dotB (s.rows.getD k []) x := by
        rw [dotB_V (n := s.w + 1 + s.rows.length) x (by rw [(row_len s ok hk).1]; omega)]
        refine dotV_congr fun i _ => ?_
        rcases Nat.lt_or_ge i s.w with hi | hi
        · rw [wid_lo s ok hk hi]
        · have e1 : fn x i = false := fn_out (by rw [hxl]; exact hi)
          rw [e1, Bool.and_false, Bool.and_false]
      rw [e] at this
      cases h1 : dotB (s.rows.getD k []) x <;> cases h2 : fn s.right k <;> rw [h1, h2] at this <;> first | rfl | cases this
    have hf : x ∈ fitsB s := by
      refine (mem_fits s ok).mpr ⟨hxl, List.ext_getElem (by rw [List.length_map, ok.l]) fun k h1 h2 => ?_⟩
      rw [List.length_map] at h1
      have := hwid k h1
      rw [List.getElem_map]
      unfold fn at this
      rw [List.getD_eq_getElem?_getD, List.getD_eq_getElem?_getD, List.getElem?_eq_getElem h1, List.getElem?_eq_getElem h2] at this
      exact this
    exact ⟨hf, no_of_fit s ok hf⟩
end
theorem facts (s : Sy) (ok : s.Ok) : Facts s := ⟨fact_mx s ok, fact_cnt s ok, fact_rk s ok, fact_st1 s ok, fact_st2 s ok, fact_ql s ok, fact_qo s ok, fun V hV => ap_rank hV, fact_qa s ok, fact_sol s ok, fact_msk s ok⟩
end NK01
end

theorem PySem.Challenge.cw_waysback_k01_whole_even_systems_holds : PySem.Challenge.rw_waysback_k01_whole_even_systems.Holds := by
  exact NK01.ends (NK01.ends_of_facts NK01.facts)
