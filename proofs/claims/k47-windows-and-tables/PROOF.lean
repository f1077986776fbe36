import PyProof.Rows.All
import Wide.All
import OpenK.AllK
import Wide.FinOn
import HandS.ForMost
import HandS.ForExc
import HandS.ExcIs
import HandS.IsInst
import HandS.TryOnly
import HandS.Flow
import HandS.Wide
import HandS.Walk
import HandS.Zip
import HandS.Rev
import HandS.HeadEnd
import HandS.HeadHook2
import HandS.Head2
import HandS.EndBits
import PySem.Challenge.RW_noisepurse_k47_windows_and_tables
set_option Elab.async false
set_option linter.all false
set_option maxRecDepth 100000
set_option maxHeartbeats 4000000
/-! MP: a small pure language, its meaning, and what ties it to the defs of a text. Part 1: values, terms, meaning. -/
namespace MP
open PySem PySem.Spec PyProof.Rows L2

/-- a value as a tree -/
inductive PV where
  | non | bl (b : Bool) | int (i : Int) | str (x : Str)
  | lst (xs : List PV) | lsk (xs : List PV) | tup (xs : List PV) | obj (c : Nat) (xs : List PV)

inductive R (α : Type) where
  | ok (a : α) | exc (c : Nat) | stuck
def R.bnd {α β : Type} : R α → (α → R β) → R β
  | .ok a, f => f a
  | .exc c, _ => .exc c
  | .stuck, _ => .stuck

/-- what is known of a slot: nothing, a value that stands, a list of our own, an object of our own (its first fields), the caught error -/
inductive Slot where
  | un | fr (x : PV) | ow (xs : List PV) | oo (c nf : Nat) (xs : List PV) | ex (c : Nat)
abbrev Env' := List Slot
def sl : Env' → Nat → Slot
  | [], _ => .un
  | s :: _, 0 => s
  | _ :: r, n + 1 => sl r n

inductive BOp where | add | sub | mul | fdiv | mod | pow | shl | shr | band | bor | bxor
inductive COp where | lt | le | gt | ge | eq | ne
inductive Blt where | len | abs | min2 | max2 | sum | maxl | minl | int | list | tuple | all | any
inductive Tgt where | nm (i : Nat) | tp (is : List Nat)

mutual
inductive Exp where
  | omit
  | var (i : Nat) | int (i : Int) | str (x : Str) | bl (b : Bool) | non
  | glob (x : Str) (v : PV)
  | bin (op : BOp) (a b : Exp)
  | neg (a : Exp) | not (a : Exp) | and (es : Exps) | or (es : Exps)
  | ite (c a b : Exp)
  | cmp (op : COp) (a b : Exp) | chain (o1 o2 : COp) (a b c : Exp) | isN (a : Exp) | notN (a : Exp) | isIn (neg : Bool) (a b : Exp)
  | list (es : Exps) | tuple (es : Exps)
  | idx (a b : Exp) | slc (a lo hi : Exp)
  | fld (a : Exp) (c k : Nat) (x : Str)
  | call (x : Str) (g : List PV → R PV) (fr : Bool) (dfl : List PV) (es : Exps)
  | meth (a : Exp) (c : Nat) (m : Str) (g : List PV → R PV) (fr : Bool) (dfl : List PV) (es : Exps)
  | mk (x : Str) (c : Nat) (g : List PV → R PV) (dfl : List PV) (es : Exps)
  | blt (f : Blt) (es : Exps)
  | isI (a : Exp) (T : String)
  | isX (i : Nat) (x : Str) (tab : List (Nat × Bool))
  | comp (elt cond : Exp) (tg : Tgt) (it : Itx) (own : List (Str × Nat))
  | brw (i : Nat) (a : Exp)
inductive Exps where
  | nil | cons (e : Exp) (es : Exps)
inductive Itx where
  | seq (a : Exp) | r1 (a : Exp) | r2 (a b : Exp) | enum (a : Exp) | zip (a b : Exp) | rev (a : Exp)
end

def szL : Nat := 16777216
theorem szL_eq : sizeLine = szL := sizeLine_eq

/-! ### equality -/
mutual
def PV.data : PV → Option PyData
  | .non => some .none
  | .bl b => some (.bool b)
  | .int i => some (.int i)
  | .str x => some (.str x)
  | .lst xs => (PV.datas xs).map .list
  | .lsk xs => (PV.datas xs).map .list
  | .tup xs => (PV.datas xs).map .tuple
  | .obj _ _ => none
def PV.datas : List PV → Option (List PyData)
  | [] => some []
  | x :: xs => match PV.data x, PV.datas xs with
    | some d, some ds => some (d :: ds)
    | _, _ => none
end
def eqG (x y : PV) : Option Bool := match PV.data x, PV.data y with
  | some d, some e => if SeqAt.shaped d = true ∧ SeqAt.shaped e = true then some (PyData.eqv d e) else none
  | _, _ => none
def eqP : PV → PV → Option Bool
  | .int i, .int j => some (decide (i = j))
  | .str x, .str y => some (decide (x = y))
  | .bl x, .bl y => some (decide (x = y))
  | x, y => eqG x y

/-! ### operators -/
def mulB (i j : Int) : Bool := decide (Builtin.Int.intBits i ≤ 64) || decide (Builtin.Int.intBits j ≤ 64) || decide (Builtin.Int.intBits i + Builtin.Int.intBits j ≤ 134217728)
def divB (i j : Int) : Bool := decide (0 < j) && !Builtin.divisionGoesByPylong i j
def powB (i j : Int) : Bool := decide (0 ≤ j ∧ j ≤ 1000000 ∧ i.natAbs < 2 ^ 64)
def i62 (j : Int) : Bool := decide (-4611686018427387904 ≤ j ∧ j < 4611686018427387904)
def bop : BOp → PV → PV → R PV
  | .add, .int i, .int j => .ok (.int (i + j))
  | .add, .lst xs, .lst ys => if xs.length + ys.length ≤ szL then .ok (.lst (xs ++ ys)) else .stuck
  | .sub, .int i, .int j => .ok (.int (i - j))
  | .mul, .int i, .int j => if mulB i j = true then .ok (.int (i * j)) else .stuck
  | .mul, .lst xs, .int k => if i62 k = true ∧ xs.length * k.toNat ≤ szL then .ok (.lst (List.replicate k.toNat xs).flatten) else .stuck
  | .fdiv, .int i, .int j => if divB i j = true then .ok (.int (i / j)) else .stuck
  | .mod, .int i, .int j => if 0 < j then .ok (.int (i % j)) else .stuck
  | .pow, .int i, .int j => if powB i j = true then .ok (.int (i ^ j.toNat)) else .stuck
  | .shl, .int i, .int j => if powB i j = true then .ok (.int (i * 2 ^ j.toNat)) else .stuck
  | .shr, .int i, .int j => if 0 ≤ j then .ok (.int (i / 2 ^ j.toNat)) else .stuck
  | .band, .int i, .int j => .ok (.int (Builtin.bitAnd i j))
  | .bor, .int i, .int j => .ok (.int (Builtin.bitOr i j))
  | .bxor, .int i, .int j => .ok (.int (Builtin.bitXor i j))
  | _, _, _ => .stuck
def cop : COp → PV → PV → R PV
  | .lt, .int i, .int j => .ok (.bl (decide (i < j)))
  | .le, .int i, .int j => .ok (.bl (decide (i ≤ j)))
  | .gt, .int i, .int j => .ok (.bl (decide (j < i)))
  | .ge, .int i, .int j => .ok (.bl (decide (j ≤ i)))
  | .eq, x, y => (match eqP x y with
    | some b => .ok (.bl b)
    | none => .stuck)
  | .ne, x, y => (match eqP x y with
    | some b => .ok (.bl (!b))
    | none => .stuck)
  | _, _, _ => .stuck
def truP : PV → Option Bool
  | .non => some false
  | .bl b => some b
  | .int i => some (i != 0)
  | .lst xs => some (!xs.isEmpty)
  | .lsk xs => some (!xs.isEmpty)
  | .tup xs => some (!xs.isEmpty)
  | _ => none
def isB : PV → R Bool
  | .bl b => .ok b
  | _ => .stuck
def truR (v : PV) : R Bool := match truP v with
  | some b => .ok b
  | none => .stuck
/-- a value without addresses -/
def toV : PV → Option V
  | .non => some .non
  | .bl b => some (.bl b)
  | .int i => some (.int i)
  | .str x => some (.str x)
  | _ => none
def flatP (v : PV) : Bool := (toV v).isSome
def toVs : List PV → Option (List V)
  | [] => some []
  | x :: xs => match toV x, toVs xs with
    | some v, some vs => some (v :: vs)
    | _, _ => none
def items? : PV → Option (List PV)
  | .lst xs => some xs
  | .lsk xs => some xs
  | .tup xs => some xs
  | _ => none
def inP (neg : Bool) (x y : PV) : R PV := match toV x, (items? y).bind toVs with
  | some v, some vs => .ok (.bl (if neg then !inV v vs else inV v vs))
  | _, _ => .stuck
def idxP (x i : PV) : R PV := match items? x, i with
  | some xs, .int i => (match atI xs i with
    | some v => .ok v
    | none => .stuck)
  | _, _ => .stuck
def cutP (xs : List PV) (lo hi : Option Int) : List PV := (xs.drop (HT.sIx xs.length 0 lo)).take (HT.sIx xs.length xs.length hi - HT.sIx xs.length 0 lo)
def partP : R PV → R (Option Int)
  | .ok (.int i) => .ok (some i)
  | .exc c => .exc c
  | _ => .stuck
def slcP (x : PV) (lo hi : Option Int) : R PV := match x with
  | .lst xs => .ok (.lst (cutP xs lo hi))
  | .lsk xs => .ok (.lst (cutP xs lo hi))
  | _ => .stuck
def intsOf : List PV → Option (List Int)
  | [] => some []
  | .int i :: xs => (intsOf xs).map (i :: ·)
  | _ :: _ => none
def blsOf : List PV → Option (List Bool)
  | [] => some []
  | .bl i :: xs => (blsOf xs).map (i :: ·)
  | _ :: _ => none
def lits? : PV → Option (List PV)
  | .lst xs => some xs
  | .lsk xs => some xs
  | _ => none
def maxL : List Int → Option Int
  | [] => none
  | x :: xs => some (xs.foldl (fun a b => if a < b then b else a) x)
def minL : List Int → Option Int
  | [] => none
  | x :: xs => some (xs.foldl (fun a b => if b < a then b else a) x)
def bltP : Blt → List PV → R PV
  | .len, [x] => (match items? x with
    | some xs => .ok (.int xs.length)
    | none => .stuck)
  | .abs, [.int i] => .ok (.int (if i < 0 then -i else i))
  | .min2, [.int i, .int j] => .ok (.int (if j < i then j else i))
  | .max2, [.int i, .int j] => .ok (.int (if j > i then j else i))
  | .sum, [x] => (match (lits? x).bind intsOf with
    | some ns => .ok (.int ns.sum)
    | none => .stuck)
  | .maxl, [x] => (match ((lits? x).bind intsOf).bind maxL with
    | some m => .ok (.int m)
    | none => .stuck)
  | .minl, [x] => (match ((lits? x).bind intsOf).bind minL with
    | some m => .ok (.int m)
    | none => .stuck)
  | .int, [.int i] => .ok (.int i)
  | .int, [.bl b] => .ok (.int (if b then 1 else 0))
  | .list, [x] => (match items? x with
    | some xs => .ok (.lst xs)
    | none => .stuck)
  | .tuple, [x] => (match items? x with
    | some xs => .ok (.tup xs)
    | none => .stuck)
  | .all, [x] => (match (lits? x).bind blsOf with
    | some bs => .ok (.bl (bs.all id))
    | none => .stuck)
  | .any, [x] => (match (lits? x).bind blsOf with
    | some bs => .ok (.bl (bs.any id))
    | none => .stuck)
  | _, _ => .stuck
/-- the built-in type of a value -/
def tyOf : PV → Option String
  | .non => some "NoneType"
  | .bl _ => some "bool"
  | .int _ => some "int"
  | .str _ => some "str"
  | .lst _ => some "list"
  | .tup _ => some "tuple"
  | _ => none
def isIP (T : String) (x : PV) : R PV := match tyOf x with
  | some t => (match kitB t T with
    | some b => .ok (.bl b)
    | none => .stuck)
  | none => .stuck

/-! ### targets -/
def setN : List Nat → List PV → Env' → Option Env'
  | [], [], ρ => some ρ
  | i :: is, x :: xs, ρ => setN is xs (ρ.set i (.fr x))
  | _, _, _ => none
def bindT : Tgt → PV → Env' → Option Env'
  | .nm i, x, ρ => some (ρ.set i (.fr x))
  | .tp is, .tup xs, ρ => setN is xs ρ
  | .tp is, .lst xs, ρ => setN is xs ρ
  | .tp is, .lsk xs, ρ => setN is xs ρ
  | _, _, _ => none
def wipe' (ρ : Env') : List Nat → Env'
  | [] => ρ
  | v :: vs => (wipe' ρ vs).set v .un
/-- the slots that a comprehension uses for its own names hold nothing of our own -/
def freeB (ρ : Env') (is : List Nat) : Bool := is.all fun i => match sl ρ i with
  | .ow _ => false
  | .oo _ _ _ => false
  | _ => true
def frzS : Slot → Slot
  | .ow xs => .fr (.lst xs)
  | .oo c nf xs => if xs.length = nf then .fr (.obj c xs) else .un
  | s => s
def frz (i : Nat) (ρ : Env') : Env' := ρ.set i (frzS (sl ρ i))
def rangeP (lo : Int) (n : Nat) : List PV := (List.range n).map fun (k : Nat) => .int (lo + (k : Int))
def enumP : Nat → List PV → List PV
  | _, [] => []
  | n, x :: xs => .tup [.int (n : Int), x] :: enumP (n + 1) xs
def zipP : List PV → List PV → List PV
  | x :: xs, y :: ys => .tup [x, y] :: zipP xs ys
  | _, _ => []
def mapC (f : PV → R (Option PV)) : List PV → R (List PV)
  | [] => .ok []
  | x :: xs => match f x with
    | .ok (some y) => (match mapC f xs with
      | .ok ys => .ok (y :: ys)
      | _ => .stuck)
    | .ok none => mapC f xs
    | _ => .stuck
/-- a name in a place where a list of our own may be read -/
def topOf (a : Exp) (r : R PV) (ρ : Env') : R PV := match a with
  | .var i => (match sl ρ i with
    | .fr v => .ok v
    | .ow xs => .ok (.lst xs)
    | _ => .stuck)
  | _ => r
def isOmit : Exp → Bool
  | .omit => true
  | _ => false
def fldP (c k : Nat) : PV → R PV
  | .obj c' xs => if c' = c then (match xs[k]? with
    | some v => .ok v
    | none => .stuck) else .stuck
  | _ => .stuck
def isNonP : PV → Bool
  | .non => true
  | _ => false
def isObj' (c : Nat) : PV → Bool
  | .obj c' _ => decide (c' = c)
  | _ => false

mutual
def evE : Exp → Env' → R PV
  | .omit, _ => .stuck
  | .var i, ρ => (match sl ρ i with
    | .fr v => .ok v
    | _ => .stuck)
  | .int i, _ => .ok (.int i)
  | .str x, _ => .ok (.str x)
  | .bl b, _ => .ok (.bl b)
  | .non, _ => .ok .non
  | .glob _ v, _ => .ok v
  | .bin op a b, ρ => (topOf a (evE a ρ) ρ).bnd fun x => (topOf b (evE b ρ) ρ).bnd fun y => bop op x y
  | .neg a, ρ => (evE a ρ).bnd fun x => (match x with
    | .int i => .ok (.int (-i))
    | _ => .stuck)
  | .not a, ρ => (evE a ρ).bnd fun x => (truR x).bnd fun b => .ok (.bl (!b))
  | .and es, ρ => evAnd es ρ
  | .or es, ρ => evOr es ρ
  | .ite c a b, ρ => (evE c ρ).bnd fun x => (truR x).bnd fun k => if k = true then evE a ρ else evE b ρ
  | .cmp op a b, ρ => (topOf a (evE a ρ) ρ).bnd fun x => (topOf b (evE b ρ) ρ).bnd fun y => cop op x y
  | .chain o1 o2 a b c, ρ => (evE a ρ).bnd fun x => (evE b ρ).bnd fun y => (cop o1 x y).bnd fun z => (isB z).bnd fun k => if k = true then (evE c ρ).bnd fun w => cop o2 y w else .ok (.bl false)
  | .isN a, ρ => (evE a ρ).bnd fun x => .ok (.bl (isNonP x))
  | .notN a, ρ => (evE a ρ).bnd fun x => .ok (.bl (!isNonP x))
  | .isIn neg a b, ρ => (evE a ρ).bnd fun x => (topOf b (evE b ρ) ρ).bnd fun y => inP neg x y
  | .list es, ρ => (evEs es ρ).bnd fun xs => if xs.length ≤ szL then .ok (.lst xs) else .stuck
  | .tuple es, ρ => (evEs es ρ).bnd fun xs => if xs.length ≤ szL then .ok (.tup xs) else .stuck
  | .idx a b, ρ => (topOf a (evE a ρ) ρ).bnd fun x => (evE b ρ).bnd fun i => idxP x i
  | .slc a lo hi, ρ => (topOf a (evE a ρ) ρ).bnd fun x => (if isOmit lo then .ok none else partP (evE lo ρ)).bnd fun l => (if isOmit hi then .ok none else partP (evE hi ρ)).bnd fun h => slcP x l h
  | .fld a c k _, ρ => (evE a ρ).bnd fun x => fldP c k x
  | .call _ g _ dfl es, ρ => (evEs es ρ).bnd fun xs => g (xs ++ dfl)
  | .meth a c _ g _ dfl es, ρ => (evE a ρ).bnd fun x => if isObj' c x then (evEs es ρ).bnd fun xs => g (x :: (xs ++ dfl)) else .stuck
  | .mk _ _ g dfl es, ρ => (evEs es ρ).bnd fun xs => g (xs ++ dfl)
  | .blt f es, ρ => (evTs es ρ).bnd fun xs => bltP f xs
  | .isI a T, ρ => (topOf a (evE a ρ) ρ).bnd fun x => isIP T x
  | .isX i _ tab, ρ => (match sl ρ i with
    | .ex c => (match tab.lookup c with
      | some b => .ok (.bl b)
      | none => .stuck)
    | _ => .stuck)
  | .comp elt cond tg it own, ρ => if freeB ρ (own.map (·.2)) = true then ((evI it ρ true).bnd fun xs => (mapC (fun x => match bindT tg x (wipe' ρ (own.map (·.2))) with
      | none => .stuck
      | some ρ1 => (if isOmit cond then .ok true else (evE cond ρ1).bnd truR).bnd fun k => if k = true then (evE elt ρ1).bnd fun y => .ok (some y) else .ok none) xs).bnd fun ys => .ok (.lst ys)) else .stuck
  | .brw i a, ρ => (evE a (frz i ρ)).bnd fun x => if flatP x = true then .ok x else .stuck
def evEs : Exps → Env' → R (List PV)
  | .nil, _ => .ok []
  | .cons e es, ρ => (evE e ρ).bnd fun x => (evEs es ρ).bnd fun xs => .ok (x :: xs)
def evTs : Exps → Env' → R (List PV)
  | .nil, _ => .ok []
  | .cons e es, ρ => (topOf e (evE e ρ) ρ).bnd fun x => (evTs es ρ).bnd fun xs => .ok (x :: xs)
def evAnd : Exps → Env' → R PV
  | .nil, _ => .stuck
  | .cons e .nil, ρ => evE e ρ
  | .cons e es, ρ => (evE e ρ).bnd fun x => (isB x).bnd fun k => if k = true then evAnd es ρ else .ok (.bl false)
def evOr : Exps → Env' → R PV
  | .nil, _ => .stuck
  | .cons e .nil, ρ => evE e ρ
  | .cons e es, ρ => (evE e ρ).bnd fun x => (isB x).bnd fun k => if k = true then .ok (.bl true) else evOr es ρ
/-- what a loop walks; top: a list of our own may be walked (in a comprehension) -/
def evI : Itx → Env' → Bool → R (List PV)
  | .seq a, ρ, t => (if t = true then topOf a (evE a ρ) ρ else evE a ρ).bnd fun x => (match items? x with
    | some xs => .ok xs
    | none => .stuck)
  | .r1 a, ρ, _ => (evE a ρ).bnd fun x => (match x with
    | .int n => if i62 n = true ∧ n.toNat ≤ szL then .ok (rangeP 0 n.toNat) else .stuck
    | _ => .stuck)
  | .r2 a b, ρ, _ => (evE a ρ).bnd fun x => (evE b ρ).bnd fun y => (match x, y with
    | .int m, .int n => if i62 m = true ∧ i62 n = true ∧ (n - m).toNat ≤ szL then .ok (rangeP m (n - m).toNat) else .stuck
    | _, _ => .stuck)
  | .enum a, ρ, t => (if t = true then topOf a (evE a ρ) ρ else evE a ρ).bnd fun x => (match lits? x with
    | some xs => .ok (enumP 0 xs)
    | none => .stuck)
  | .zip a b, ρ, t => (if t = true then topOf a (evE a ρ) ρ else evE a ρ).bnd fun x => (if t = true then topOf b (evE b ρ) ρ else evE b ρ).bnd fun y => (match x, y with
    | .tup xs, .tup ys => .ok (zipP xs ys)
    | x, y => (match lits? x, lits? y with
      | some xs, some ys => .ok (zipP xs ys)
      | _, _ => .stuck))
  | .rev a, ρ, t => (if t = true then topOf a (evE a ρ) ρ else evE a ρ).bnd fun x => (match items? x with
    | some xs => .ok xs.reverse
    | none => .stuck)
end

/-! ### statements -/
inductive SR where
  | next (ρ : Env') | ret (fr : Bool) (v : PV) | brk (ρ : Env') | cont (ρ : Env') | exc (c : Nat) (ρ : Env') | stuck
mutual
inductive Cmd where
  | skip | expr (e : Exp) | set (i : Nat) (e : Exp) | setO (i : Nat) (e : Exp) | frz (i : Nat)
  | unpack (is : List Nat) (e : Exp) | par (i j : Nat) (a b : Exp)
  | aug (i : Nat) (sub : Bool) (e : Exp)
  | app (i : Nat) (e : Exp) | setI (i : Nat) (k e : Exp) | augI (i : Nat) (k : Exp) (sub : Bool) (e : Exp)
  | setF (i c k : Nat) (x : Str) (e : Exp)
  | ite (c : Exp) (a b : Cmds)
  | ret (e : Exp) | retF (e : Exp) | retO (i : Nat) | retN
  | raise (x : Str) (c : Nat)
  | for_ (tg : Tgt) (it : Itx) (body : Cmds)
  | while_ (fuel : Env' → Nat) (c : Exp) (body : Cmds)
  | brk | cont
  | try_ (body : Cmds) (x : Str) (d : Nat) (tab : List (Nat × Bool)) (i : Nat) (h : Cmds)
inductive Cmds where
  | nil | cons (c : Cmd) (cs : Cmds)
end
def forR (body : Env' → SR) (tg : Tgt) : List PV → Env' → SR
  | [], ρ => .next ρ
  | x :: xs, ρ => match bindT tg x ρ with
    | none => .stuck
    | some ρ1 => (match body ρ1 with
      | .next ρ2 => forR body tg xs ρ2
      | .cont ρ2 => forR body tg xs ρ2
      | .brk ρ2 => .next ρ2
      | r => r)
def whileR (c : Env' → R Bool) (body : Env' → SR) : Nat → Env' → SR
  | 0, _ => .stuck
  | n + 1, ρ => match c ρ with
    | .ok true => (match body ρ with
      | .next ρ2 => whileR c body n ρ2
      | .cont ρ2 => whileR c body n ρ2
      | .brk ρ2 => .next ρ2
      | r => r)
    | .ok false => .next ρ
    | .exc k => .exc k ρ
    | .stuck => .stuck
/-- behind an expression -/
def sb {α : Type} (r : R α) (ρ : Env') (f : α → SR) : SR := match r with
  | .ok a => f a
  | .exc c => .exc c ρ
  | .stuck => .stuck
def augV (sub : Bool) : PV → PV → R PV
  | .int i, .int j => .ok (.int (if sub = true then i - j else i + j))
  | _, _ => .stuck
mutual
def exS : Cmd → Env' → SR
  | .skip, ρ => .next ρ
  | .expr e, ρ => sb (evE e ρ) ρ fun _ => .next ρ
  | .set i e, ρ => sb (evE e ρ) ρ fun v => .next (ρ.set i (.fr v))
  | .setO i e, ρ => sb (evE e ρ) ρ fun v => (match v with
    | .lst xs => .next (ρ.set i (.ow xs))
    | _ => .stuck)
  | .frz i, ρ => .next (frz i ρ)
  | .unpack is e, ρ => sb (evE e ρ) ρ fun v => (match bindT (.tp is) v ρ with
    | some ρ1 => .next ρ1
    | none => .stuck)
  | .par i j a b, ρ => sb (evE a ρ) ρ fun v => sb (evE b ρ) ρ fun w => .next ((ρ.set i (.fr v)).set j (.fr w))
  | .aug i sub e, ρ => (match sl ρ i with
    | .fr x => sb (evE e ρ) ρ fun y => sb (augV sub x y) ρ fun z => .next (ρ.set i (.fr z))
    | _ => .stuck)
  | .app i e, ρ => (match sl ρ i with
    | .ow xs => sb (evE e ρ) ρ fun v => if xs.length < szL then .next (ρ.set i (.ow (xs ++ [v]))) else .stuck
    | _ => .stuck)
  | .setI i k e, ρ => (match sl ρ i with
    | .ow xs => sb (evE e ρ) ρ fun v => sb (evE k ρ) ρ fun j => (match j with
      | .int j => (match ixN xs.length j with
        | some n => .next (ρ.set i (.ow (xs.set n v)))
        | none => .stuck)
      | _ => .stuck)
    | _ => .stuck)
  | .augI i k sub e, ρ => (match sl ρ i with
    | .ow xs => sb (evE k ρ) ρ fun j => (match j with
      | .int j => (match ixN xs.length j with
        | some n => (match xs[n]? with
          | some x => sb (evE e ρ) ρ fun y => sb (augV sub x y) ρ fun z => .next (ρ.set i (.ow (xs.set n z)))
          | none => .stuck)
        | none => .stuck)
      | _ => .stuck)
    | _ => .stuck)
  | .setF i c k _ e, ρ => (match sl ρ i with
    | .oo c' nf xs => if c' = c ∧ xs.length = k ∧ k < nf then sb (evE e ρ) ρ fun v => .next (ρ.set i (.oo c nf (xs ++ [v]))) else .stuck
    | _ => .stuck)
  | .ite c a b, ρ => sb ((evE c ρ).bnd truR) ρ fun k => if k = true then exSs a ρ else exSs b ρ
  | .ret e, ρ => sb (evE e ρ) ρ fun v => .ret false v
  | .retF e, ρ => sb (evE e ρ) ρ fun v => (match v with
    | .lst xs => .ret true (.lst xs)
    | _ => .stuck)
  | .retO i, ρ => (match sl ρ i with
    | .ow xs => .ret true (.lst xs)
    | _ => .stuck)
  | .retN, _ => .ret false .non
  | .raise _ c, ρ => .exc c ρ
  | .for_ tg it body, ρ => sb (evI it ρ false) ρ fun xs => forR (fun ρ => exSs body ρ) tg xs ρ
  | .while_ fuel c body, ρ => whileR (fun ρ => (evE c ρ).bnd truR) (fun ρ => exSs body ρ) (fuel ρ) ρ
  | .brk, ρ => .brk ρ
  | .cont, ρ => .cont ρ
  | .try_ body _ _ tab i h, ρ => (match exSs body ρ with
    | .exc c ρ1 => (match tab.lookup c with
      | some true => (match exSs h (ρ1.set i (.ex c)) with
        | .ret f v => .ret f v
        | _ => .stuck)
      | some false => .exc c ρ1
      | none => .stuck)
    | r => r)
def exSs : Cmds → Env' → SR
  | .nil, ρ => .next ρ
  | .cons c cs, ρ => (match exS c ρ with
    | .next ρ1 => exSs cs ρ1
    | r => r)
end

/-! ### a def -/
def env0 (n : Nat) (args : List PV) : Env' := args.map .fr ++ List.replicate (n - args.length) .un
/-- a def of so many parameters and slots -/
def runF (fr : Bool) (k n : Nat) (body : Cmds) (args : List PV) : R PV :=
  if args.length = k then (match exSs body (env0 n args) with
    | .next _ => if fr = true then .stuck else .ok .non
    | .ret f v => if fr = true ∧ f = false then .stuck else .ok v
    | .exc c _ => .exc c
    | _ => .stuck) else .stuck
/-- an __init__ of a class with nf fields -/
def runI (c nf k n : Nat) (body : Cmds) (args : List PV) : R PV :=
  if args.length + 1 = k then (match exSs body (.oo c nf [] :: (args.map .fr ++ List.replicate (n - k) .un)) with
    | .next ρ => (match sl ρ 0 with
      | .oo c' _ xs => if c' = c ∧ xs.length = nf then .ok (.obj c xs) else .stuck
      | _ => .stuck)
    | .exc e _ => .exc e
    | _ => .stuck) else .stuck
end MP

/-! MP, part 2: trees and the abstract heap. -/
namespace MP
open PySem PySem.Spec PyProof.Rows L2

structure Gx where
  cl : Nat → Addr
  fld : Nat → List Str

mutual
def Rep (K : PySem.W.Frag) (G : Gx) (H : Hp) : PV → V → Prop
  | .non, v => v = .non
  | .bl b, v => v = .bl b
  | .int i, v => v = .int i
  | .str x, v => v = .str x
  | .lst xs, v => ∃ a vs, v = .ref a ∧ H a = some (.lst vs) ∧ xs.length ≤ szL ∧ Reps K G H xs vs
  | .lsk xs, v => ∃ a vs, v = .ref a ∧ SqL K H a vs ∧ xs.length ≤ szL ∧ Reps K G H xs vs
  | .tup xs, v => ∃ a vs, v = .ref a ∧ SqT K H a vs ∧ xs.length ≤ szL ∧ Reps K G H xs vs
  | .obj c xs, v => ∃ a dx vs, v = .ref a ∧ H a = some (.ins (G.cl c) dx ((G.fld c).zip vs)) ∧ xs.length = (G.fld c).length ∧ Reps K G H xs vs
def Reps (K : PySem.W.Frag) (G : Gx) (H : Hp) : List PV → List V → Prop
  | [], vs => vs = []
  | x :: xs, vs => ∃ v r, vs = v :: r ∧ Rep K G H x v ∧ Reps K G H xs r
end

section
variable {K : PySem.W.Frag} {G : Gx} {H H' : Hp}
theorem Same.tup {a : Addr} {xs : List V} (e : Same H H') (h : SqT K H a xs) : SqT K H' a xs := by
  rcases h with (h | ⟨o, h⟩) | h
  · exact .inl (.inl (e _ _ h))
  · exact .inl (.inr ⟨o, e _ _ h⟩)
  · exact .inr h
mutual
theorem Rep.mono (e : Same H H') : ∀ (x : PV) (v : V), Rep K G H x v → Rep K G H' x v
  | .non, v, h => h
  | .bl b, v, h => h
  | .int i, v, h => h
  | .str x, v, h => h
  | .lst xs, v, h => by
    obtain ⟨a, vs, h1, h2, h3, h4⟩ := h
    exact ⟨a, vs, h1, e _ _ h2, h3, Reps.mono e xs vs h4⟩
  | .lsk xs, v, h => by
    obtain ⟨a, vs, h1, h2, h3, h4⟩ := h
    exact ⟨a, vs, h1, e.seq h2, h3, Reps.mono e xs vs h4⟩
  | .tup xs, v, h => by
    obtain ⟨a, vs, h1, h2, h3, h4⟩ := h
    exact ⟨a, vs, h1, Same.tup e h2, h3, Reps.mono e xs vs h4⟩
  | .obj c xs, v, h => by
    obtain ⟨a, dx, vs, h1, h2, h3, h4⟩ := h
    exact ⟨a, dx, vs, h1, e _ _ h2, h3, Reps.mono e xs vs h4⟩
theorem Reps.mono (e : Same H H') : ∀ (xs : List PV) (vs : List V), Reps K G H xs vs → Reps K G H' xs vs
  | [], vs, h => h
  | x :: xs, vs, h => by
    obtain ⟨v, r, h1, h2, h3⟩ := h
    exact ⟨v, r, h1, Rep.mono e x v h2, Reps.mono e xs r h3⟩
end
theorem Reps.nil : Reps K G H [] [] := rfl
theorem Reps.cons {x : PV} {v : V} {xs : List PV} {vs : List V} (h : Rep K G H x v) (t : Reps K G H xs vs) : Reps K G H (x :: xs) (v :: vs) := ⟨v, vs, rfl, h, t⟩
theorem Reps.len : ∀ {xs : List PV} {vs : List V}, Reps K G H xs vs → vs.length = xs.length
  | [], vs, h => by
    have e : vs = [] := h
    rw [e]
    rfl
  | x :: xs, vs, h => by
    obtain ⟨v, r, h1, h2, h3⟩ := h
    rw [h1, List.length_cons, List.length_cons, Reps.len h3]
theorem Reps.get : ∀ {xs : List PV} {vs : List V} {i : Nat} {x : PV}, Reps K G H xs vs → xs[i]? = some x → ∃ v, vs[i]? = some v ∧ Rep K G H x v
  | [], _, _, _, _, e => by simp at e
  | y :: xs, vs, 0, x, h, e => by
    obtain ⟨v, r, h1, h2, h3⟩ := h
    have e' : y = x := by simpa using e
    subst e'
    exact ⟨v, by rw [h1]; rfl, h2⟩
  | y :: xs, vs, i + 1, x, h, e => by
    obtain ⟨v, r, h1, h2, h3⟩ := h
    obtain ⟨w, e1, e2⟩ := Reps.get (i := i) h3 (by simpa using e)
    exact ⟨w, by rw [h1]; simpa using e1, e2⟩
theorem Reps.get' : ∀ {xs : List PV} {vs : List V} {i : Nat} {v : V}, Reps K G H xs vs → vs[i]? = some v → ∃ x, xs[i]? = some x ∧ Rep K G H x v := by
  intro xs vs i v h e
  have hl := h.len
  have hi : i < vs.length := (List.getElem?_eq_some_iff.mp e).1
  have hx : xs[i]? = some xs[i] := List.getElem?_eq_getElem (by omega)
  obtain ⟨w, e1, e2⟩ := h.get hx
  rw [e] at e1
  cases e1
  exact ⟨_, hx, e2⟩
theorem Reps.append : ∀ {xs ys : List PV} {vs ws : List V}, Reps K G H xs vs → Reps K G H ys ws → Reps K G H (xs ++ ys) (vs ++ ws)
  | [], ys, vs, ws, h, t => by
    have e : vs = [] := h
    subst e
    exact t
  | x :: xs, ys, vs, ws, h, t => by
    obtain ⟨v, r, rfl, h2, h3⟩ := h
    exact ⟨v, r ++ ws, rfl, h2, Reps.append h3 t⟩
theorem Reps.set {x : PV} {v : V} (hx : Rep K G H x v) : ∀ {xs : List PV} {vs : List V} (i : Nat), Reps K G H xs vs → Reps K G H (xs.set i x) (vs.set i v)
  | [], vs, i, h => by
    have e : vs = [] := h
    subst e
    exact rfl
  | y :: xs, vs, 0, h => by
    obtain ⟨w, r, rfl, h2, h3⟩ := h
    exact ⟨v, r, rfl, hx, h3⟩
  | y :: xs, vs, i + 1, h => by
    obtain ⟨w, r, rfl, h2, h3⟩ := h
    exact ⟨w, r.set i v, rfl, h2, Reps.set hx i h3⟩
theorem Reps.take : ∀ {xs : List PV} {vs : List V} (n : Nat), Reps K G H xs vs → Reps K G H (xs.take n) (vs.take n)
  | [], vs, n, h => by
    have e : vs = [] := h
    subst e
    simp
    exact rfl
  | y :: xs, vs, 0, h => rfl
  | y :: xs, vs, n + 1, h => by
    obtain ⟨w, r, rfl, h2, h3⟩ := h
    exact ⟨w, r.take n, rfl, h2, Reps.take n h3⟩
theorem Reps.drop : ∀ {xs : List PV} {vs : List V} (n : Nat), Reps K G H xs vs → Reps K G H (xs.drop n) (vs.drop n)
  | [], vs, n, h => by
    have e : vs = [] := h
    subst e
    simp
    exact rfl
  | y :: xs, vs, 0, h => h
  | y :: xs, vs, n + 1, h => by
    obtain ⟨w, r, rfl, h2, h3⟩ := h
    exact Reps.drop n h3
theorem Reps.rep {xs : List PV} {vs : List V} (h : Reps K G H xs vs) : ∀ k : Nat, Reps K G H (List.replicate k xs).flatten (List.replicate k vs).flatten
  | 0 => rfl
  | k + 1 => by
    rw [List.replicate_succ, List.replicate_succ, List.flatten_cons, List.flatten_cons]
    exact h.append (h.rep k)
theorem Reps.rev : ∀ {xs : List PV} {vs : List V}, Reps K G H xs vs → Reps K G H xs.reverse vs.reverse
  | [], vs, h => by
    have e : vs = [] := h
    subst e
    exact rfl
  | x :: xs, vs, h => by
    obtain ⟨v, r, rfl, h2, h3⟩ := h
    rw [List.reverse_cons, List.reverse_cons]
    exact (Reps.rev h3).append (.cons h2 .nil)
theorem rep_flat {x : PV} {v w : V} (h : toV x = some w) (r : Rep K G H x v) : v = w := by
  cases x <;> first | (cases h; exact r) | cases h
theorem flat_rep {x : PV} {w : V} (h : toV x = some w) : Rep K G H x w := by
  cases x <;> first | (cases h; exact rfl) | cases h
theorem reps_flat : ∀ {xs : List PV} {vs ws : List V}, toVs xs = some ws → Reps K G H xs vs → vs = ws
  | [], vs, ws, h, r => by
    cases h
    exact r
  | x :: xs, vs, ws, h, r => by
    obtain ⟨v, q, rfl, h2, h3⟩ := r
    unfold toVs at h
    split at h
    · rename_i a b ha hb
      cases h
      rw [rep_flat ha h2, reps_flat hb h3]
    · cases h
theorem reps_ints : ∀ {xs : List PV} {vs : List V} {ns : List Int}, intsOf xs = some ns → Reps K G H xs vs → vs = ns.map V.int
  | [], vs, ns, h, r => by
    cases h
    exact r
  | x :: xs, vs, ns, h, r => by
    obtain ⟨v, q, rfl, h2, h3⟩ := r
    cases x with
    | int i =>
      have h' : (intsOf xs).map (i :: ·) = some ns := h
      cases e : intsOf xs with
      | none => rw [e] at h'; cases h'
      | some ms =>
        rw [e] at h'
        cases h'
        have e1 : v = .int i := h2
        rw [e1, reps_ints e h3]
        rfl
    | _ => cases h
theorem reps_bls : ∀ {xs : List PV} {vs : List V} {ns : List Bool}, blsOf xs = some ns → Reps K G H xs vs → vs = ns.map V.bl
  | [], vs, ns, h, r => by
    cases h
    exact r
  | x :: xs, vs, ns, h, r => by
    obtain ⟨v, q, rfl, h2, h3⟩ := r
    cases x with
    | bl i =>
      have h' : (blsOf xs).map (i :: ·) = some ns := h
      cases e : blsOf xs with
      | none => rw [e] at h'; cases h'
      | some ms =>
        rw [e] at h'
        cases h'
        have e1 : v = .bl i := h2
        rw [e1, reps_bls e h3]
        rfl
    | _ => cases h
mutual
theorem rep_data : ∀ (x : PV) (v : V) (d : PyData), PV.data x = some d → Rep K G H x v → Dp K H v d
  | .non, v, d, h, r => by
    cases h
    have e : v = .non := r
    subst e
    exact .non
  | .bl b, v, d, h, r => by
    cases h
    have e : v = .bl b := r
    subst e
    exact .bl b
  | .int b, v, d, h, r => by
    cases h
    have e : v = .int b := r
    subst e
    exact .int b
  | .str b, v, d, h, r => by
    cases h
    have e : v = .str b := r
    subst e
    exact .str b
  | .lst xs, v, d, h, r => by
    obtain ⟨a, vs, rfl, h2, _, h3⟩ := r
    unfold PV.data at h
    cases e : PV.datas xs with
    | none => rw [e] at h; cases h
    | some ds =>
      rw [e] at h
      cases h
      exact .lst (SqL.of h2) (reps_data xs vs ds e h3)
  | .lsk xs, v, d, h, r => by
    obtain ⟨a, vs, rfl, h2, _, h3⟩ := r
    unfold PV.data at h
    cases e : PV.datas xs with
    | none => rw [e] at h; cases h
    | some ds =>
      rw [e] at h
      cases h
      exact .lst h2 (reps_data xs vs ds e h3)
  | .tup xs, v, d, h, r => by
    obtain ⟨a, vs, rfl, h2, _, h3⟩ := r
    unfold PV.data at h
    cases e : PV.datas xs with
    | none => rw [e] at h; cases h
    | some ds =>
      rw [e] at h
      cases h
      exact .tup h2 (reps_data xs vs ds e h3)
  | .obj c xs, v, d, h, r => by
    unfold PV.data at h
    cases h
theorem reps_data : ∀ (xs : List PV) (vs : List V) (ds : List PyData), PV.datas xs = some ds → Reps K G H xs vs → DpAll K H vs ds
  | [], vs, ds, h, r => by
    unfold PV.datas at h
    cases h
    have e : vs = [] := r
    subst e
    exact .nil
  | x :: xs, vs, ds, h, r => by
    obtain ⟨v, q, rfl, h2, h3⟩ := r
    unfold PV.datas at h
    split at h
    · rename_i d ds' ha hb
      cases h
      exact .cons (rep_data x v d ha h2) (reps_data xs q ds' hb h3)
    · cases h
end
end

/-! ### a heap with addresses hidden -/
open Classical in
noncomputable def hid (S : Addr → Prop) (H : Hp) : Hp := fun a => if S a then none else H a
theorem hid_some {S : Addr → Prop} {H : Hp} {a : Addr} {o : HO} : hid S H a = some o ↔ ¬ S a ∧ H a = some o := by
  unfold hid
  by_cases h : S a
  · simp [h]
  · simp [h]
theorem hid_le {S : Addr → Prop} {H : Hp} : Same (hid S H) H := fun _ _ h => (hid_some.mp h).2
theorem hid_same {S : Addr → Prop} {H H' : Hp} (e : Same H H') : Same (hid S H) (hid S H') := fun _ _ h => hid_some.mpr ⟨(hid_some.mp h).1, e _ _ (hid_some.mp h).2⟩
theorem hid_sub {S S' : Addr → Prop} {H : Hp} (e : ∀ a, S' a → S a) : Same (hid S H) (hid S' H) := fun _ _ h => hid_some.mpr ⟨fun z => (hid_some.mp h).1 (e _ z), (hid_some.mp h).2⟩
theorem hid_off {S : Addr → Prop} {H : Hp} {p : Addr} {o : HO} (hp : S p) : Same (hid S H) (hid S (upd H p o)) := fun a x h => by
  obtain ⟨h1, h2⟩ := hid_some.mp h
  refine hid_some.mpr ⟨h1, ?_⟩
  rw [upd_ne (fun e => h1 (by rw [e]; exact hp))]
  exact h2

/-! ### slots -/
structure Cfg where
  K : PySem.W.Frag
  G : Gx
  B : Addr → Prop
  H0 : Hp
  xa : Option (Addr × Nat)
  so : Addr := 0

def isOwn : Slot → Prop
  | .ow _ => True
  | .oo _ _ _ => True
  | _ => False
def ownAt (ρ : Env') (σ : L2.St) (i : Nat) (a : Addr) : Prop := isOwn (sl ρ i) ∧ σ[i]? = some (some (.ref a))
def own (ρ : Env') (σ : L2.St) (a : Addr) : Prop := ∃ i, ownAt ρ σ i a
abbrev Cfg.S (C : Cfg) (ρ : Env') (σ : L2.St) : Addr → Prop := fun a => C.B a ∨ own ρ σ a
def SlotRep (C : Cfg) (H Hd : Hp) : Slot → Option (Option V) → Prop
  | .un, _ => True
  | .fr x, v => ∃ w, v = some (some w) ∧ Rep C.K C.G Hd x w
  | .ow xs, v => ∃ a vs, v = some (some (.ref a)) ∧ H a = some (.lst vs) ∧ ¬ C.B a ∧ C.H0 a = none ∧ xs.length ≤ szL ∧ Reps C.K C.G Hd xs vs
  | .oo c nf xs, v => ∃ a dx vs, v = some (some (.ref a)) ∧ H a = some (.ins (C.G.cl c) dx ((C.G.fld c).zip vs)) ∧ ¬ C.B a ∧ C.H0 a = none ∧ (nf = (C.G.fld c).length ∧ xs.length ≤ nf ∧ a = C.so) ∧ Reps C.K C.G Hd xs vs
  | .ex c, v => ∃ a, C.xa = some (a, c) ∧ v = some (some (.ref a))
structure ER (C : Cfg) (ρ : Env') (σ : L2.St) (H : Hp) : Prop where
  len : ρ.length = σ.length
  at_ : ∀ i, SlotRep C H (hid (C.S ρ σ) H) (sl ρ i) σ[i]?
  nd : ∀ i j a, ownAt ρ σ i a → ownAt ρ σ j a → i = j
  le0 : Same C.H0 H
  bin : ∀ a, C.B a → ∃ o, H a = some o

theorem sl_get : ∀ (ρ : Env') (i : Nat), sl ρ i = ρ.getD i .un
  | [], i => by simp [sl]
  | s :: _, 0 => by simp [sl]
  | s :: r, n + 1 => by
    rw [show sl (s :: r) (n + 1) = sl r n from rfl, sl_get r n]
    simp
theorem sl_set_eq {ρ : Env'} {i : Nat} {s : Slot} (h : i < ρ.length) : sl (ρ.set i s) i = s := by
  rw [sl_get, List.getD_eq_getElem?_getD, List.getElem?_set_self h]
  rfl
theorem sl_set_ne {ρ : Env'} {i j : Nat} {s : Slot} (h : i ≠ j) : sl (ρ.set i s) j = sl ρ j := by
  rw [sl_get, sl_get, List.getD_eq_getElem?_getD, List.getD_eq_getElem?_getD, List.getElem?_set_ne h]
theorem sl_out {ρ : Env'} {i : Nat} (h : ρ.length ≤ i) : sl ρ i = .un := by
  rw [sl_get, List.getD_eq_getElem?_getD, List.getElem?_eq_none h]
  rfl
theorem SlotRep.mono {C : Cfg} {H H' Hd Hd' : Hp} (e : Same H H') (e' : Same Hd Hd') : ∀ {s : Slot} {v : Option (Option V)}, SlotRep C H Hd s v → SlotRep C H' Hd' s v
  | .un, _, h => h
  | .fr x, v, h => by
    obtain ⟨w, h1, h2⟩ := h
    exact ⟨w, h1, Rep.mono e' _ _ h2⟩
  | .ow xs, v, h => by
    obtain ⟨a, vs, h1, h2, h3, h4, h5, h6⟩ := h
    exact ⟨a, vs, h1, e _ _ h2, h3, h4, h5, Reps.mono e' _ _ h6⟩
  | .oo c nf xs, v, h => by
    obtain ⟨a, dx, vs, h1, h2, h3, h4, h5, h6⟩ := h
    exact ⟨a, dx, vs, h1, e _ _ h2, h3, h4, h5, Reps.mono e' _ _ h6⟩
  | .ex c, v, h => h

section
variable {C : Cfg} {ρ : Env'} {σ : L2.St} {H H' : Hp}
theorem ER.ext (h : ER C ρ σ H) (e : Same H H') : ER C ρ σ H' :=
  ⟨h.len, fun i => (h.at_ i).mono e (hid_same e), h.nd, h.le0.trans e, fun a z => let ⟨o, q⟩ := h.bin a z; ⟨o, e _ _ q⟩⟩
theorem ER.fr (h : ER C ρ σ H) {i : Nat} {x : PV} (e : sl ρ i = .fr x) : ∃ w, σ[i]? = some (some w) ∧ Rep C.K C.G (hid (C.S ρ σ) H) x w := by
  have q := h.at_ i
  rw [e] at q
  exact q
theorem ER.ow (h : ER C ρ σ H) {i : Nat} {xs : List PV} (e : sl ρ i = .ow xs) : ∃ a vs, σ[i]? = some (some (.ref a)) ∧ H a = some (.lst vs) ∧ ¬ C.B a ∧ C.H0 a = none ∧ xs.length ≤ szL ∧ Reps C.K C.G (hid (C.S ρ σ) H) xs vs := by
  have q := h.at_ i
  rw [e] at q
  exact q
theorem ER.oo (h : ER C ρ σ H) {i c nf : Nat} {xs : List PV} (e : sl ρ i = .oo c nf xs) : ∃ a dx vs, σ[i]? = some (some (.ref a)) ∧ H a = some (.ins (C.G.cl c) dx ((C.G.fld c).zip vs)) ∧ ¬ C.B a ∧ C.H0 a = none ∧ (nf = (C.G.fld c).length ∧ xs.length ≤ nf ∧ a = C.so) ∧ Reps C.K C.G (hid (C.S ρ σ) H) xs vs := by
  have q := h.at_ i
  rw [e] at q
  exact q
/-- slots forgotten, frozen, or given standing values: fewer lists of our own -/
theorem ER.less {ρ' : Env'} {σ' : L2.St} (h : ER C ρ σ H) (hl : ρ'.length = σ'.length)
    (hs : ∀ i, sl ρ' i = .un ∨ (sl ρ' i = sl ρ i ∧ σ'[i]? = σ[i]?) ∨ (∃ x, sl ρ' i = .fr x ∧ ∃ w, σ'[i]? = some (some w) ∧ Rep C.K C.G (hid (C.S ρ' σ') H) x w)) : ER C ρ' σ' H := by
  have sub : ∀ i a, ownAt ρ' σ' i a → ownAt ρ σ i a := fun i a ho => by
    rcases hs i with z | ⟨z1, z2⟩ | ⟨x, z, _⟩
    · have q := ho.1
      rw [z] at q
      exact q.elim
    · exact ⟨by rw [← z1]; exact ho.1, by rw [← z2]; exact ho.2⟩
    · have q := ho.1
      rw [z] at q
      exact q.elim
  have subS : ∀ a, C.S ρ' σ' a → C.S ρ σ a := fun a z => z.imp id fun ⟨i, q⟩ => ⟨i, sub i a q⟩
  refine ⟨hl, fun i => ?_, fun i j a h1 h2 => h.nd i j a (sub i a h1) (sub j a h2), h.le0, h.bin⟩
  rcases hs i with z | ⟨z1, z2⟩ | ⟨x, z, w, z1, z2⟩
  · rw [z]
    exact True.intro
  · rw [z1, z2]
    exact (h.at_ i).mono (Same.refl _) (hid_sub subS)
  · rw [z]
    exact ⟨w, z1, z2⟩
theorem own_less {ρ' : Env'} {σ' : L2.St} (hs : ∀ i, ¬ isOwn (sl ρ' i) ∨ (sl ρ' i = sl ρ i ∧ σ'[i]? = σ[i]?)) : ∀ a, own ρ' σ' a → own ρ σ a := fun a ⟨i, h1, h2⟩ => by
  rcases hs i with z | ⟨z1, z2⟩
  · exact absurd h1 z
  · exact ⟨i, by rw [← z1]; exact h1, by rw [← z2]; exact h2⟩
theorem own_set {i : Nat} {s : Slot} {v : Option V} (hs : ¬ isOwn s) (hi : i < ρ.length) : ∀ a, own (ρ.set i s) (σ.set i v) a → own ρ σ a := own_less fun j => by
  by_cases e : i = j
  · subst e
    exact .inl (by rw [sl_set_eq hi]; exact hs)
  · exact .inr ⟨sl_set_ne e, List.getElem?_set_ne e⟩
theorem ER.set (h : ER C ρ σ H) {i : Nat} {x : PV} {v : V} (hi : i < ρ.length) (r : Rep C.K C.G (hid (C.S ρ σ) H) x v) : ER C (ρ.set i (.fr x)) (σ.set i (some v)) H := by
  refine h.less (by rw [List.length_set, List.length_set]; exact h.len) fun j => ?_
  by_cases e : i = j
  · subst e
    refine .inr (.inr ⟨x, sl_set_eq hi, v, List.getElem?_set_self (by rw [← h.len]; exact hi), ?_⟩)
    exact Rep.mono (hid_sub fun a z => z.imp id (own_set (s := .fr x) (fun q => q) hi a)) _ _ r
  · exact .inr (.inl ⟨sl_set_ne e, List.getElem?_set_ne e⟩)
theorem ER.kill (h : ER C ρ σ H) {i : Nat} {v : Option V} (hi : i < ρ.length) : ER C (ρ.set i .un) (σ.set i v) H := by
  refine h.less (by rw [List.length_set, List.length_set]; exact h.len) fun j => ?_
  by_cases e : i = j
  · subst e
    exact .inl (sl_set_eq hi)
  · exact .inr (.inl ⟨sl_set_ne e, List.getElem?_set_ne e⟩)
theorem set_self {ρ : Env'} {i : Nat} (h : ρ.length ≤ i) (s : Slot) : ρ.set i s = ρ := List.set_eq_of_length_le h
theorem own_frz {i : Nat} : ∀ a, own (frz i ρ) σ a → own ρ σ a := by
  by_cases hi : i < ρ.length
  · refine own_less fun j => ?_
    by_cases e : i = j
    · subst e
      left
      unfold frz
      rw [sl_set_eq hi]
      unfold frzS
      split
      · exact fun q => q
      · split <;> exact fun q => q
      · rename_i h1 h2
        intro q
        cases z : sl ρ i with
        | ow xs => exact h1 _ z
        | oo c nf xs => exact h2 _ _ _ z
        | _ => rw [z] at q; exact q
    · exact .inr ⟨sl_set_ne e, rfl⟩
  · unfold frz
    rw [set_self (by omega)]
    exact fun a h => h
theorem ER.frz (h : ER C ρ σ H) (i : Nat) : ER C (frz i ρ) σ H := by
  by_cases hi : i < ρ.length
  · refine h.less (by unfold MP.frz; rw [List.length_set]; exact h.len) fun j => ?_
    by_cases e : i = j
    · subst e
      have es : sl (MP.frz i ρ) i = frzS (sl ρ i) := by
        unfold MP.frz
        rw [sl_set_eq hi]
      rw [es]
      cases q : sl ρ i with
      | un => exact .inl rfl
      | fr x => exact .inr (.inl ⟨rfl, rfl⟩)
      | ex c => exact .inr (.inl ⟨rfl, rfl⟩)
      | ow xs =>
        obtain ⟨a, vs, h1, h2, h3, h4, h5, h6⟩ := h.ow q
        refine .inr (.inr ⟨.lst xs, rfl, .ref a, h1, a, vs, rfl, hid_some.mpr ⟨?_, h2⟩, h5, Reps.mono (hid_sub fun a z => z.imp id (own_frz a)) _ _ h6⟩)
        rintro (z | ⟨j, z1, z2⟩)
        · exact h3 z
        · have ho : ownAt ρ σ j a := by
            by_cases ej : i = j
            · subst ej
              exact ⟨by rw [q]; exact True.intro, z2⟩
            · have es2 : sl (MP.frz i ρ) j = sl ρ j := sl_set_ne ej
              exact ⟨by rw [← es2]; exact z1, z2⟩
          have ei : i = j := h.nd i j a ⟨by rw [q]; exact True.intro, h1⟩ ho
          subst ei
          rw [es, q] at z1
          exact z1
      | oo c nf xs =>
        obtain ⟨a, dx, vs, h1, h2, h3, h4, ⟨h5, h5'⟩, h6⟩ := h.oo q
        by_cases hf : xs.length = nf
        · refine .inr (.inr ⟨.obj c xs, if_pos hf, .ref a, h1, a, dx, vs, rfl, hid_some.mpr ⟨?_, h2⟩, hf.trans h5, Reps.mono (hid_sub fun a z => z.imp id (own_frz a)) _ _ h6⟩)
          rintro (z | ⟨j, z1, z2⟩)
          · exact h3 z
          · have ho : ownAt ρ σ j a := by
              by_cases ej : i = j
              · subst ej
                exact ⟨by rw [q]; exact True.intro, z2⟩
              · have es2 : sl (MP.frz i ρ) j = sl ρ j := sl_set_ne ej
                exact ⟨by rw [← es2]; exact z1, z2⟩
            have ei : i = j := h.nd i j a ⟨by rw [q]; exact True.intro, h1⟩ ho
            subst ei
            rw [es, q] at z1
            have e3 : frzS (.oo c nf xs) = .fr (.obj c xs) := if_pos hf
            rw [e3] at z1
            exact z1
        · exact .inl (if_neg hf)
    · exact .inr (.inl ⟨sl_set_ne e, rfl⟩)
  · unfold MP.frz
    rw [set_self (by omega)]
    exact h
/-- a new list of our own -/
theorem ER.newOw (h : ER C ρ σ H) (e : Same H H') {i : Nat} {xs : List PV} {vs : List V} {p : Addr} (hi : i < ρ.length) (np : H p = none) (hp : H' p = some (.lst vs)) (hz : xs.length ≤ szL)
    (r : Reps C.K C.G (hid (fun a => C.S ρ σ a ∨ a = p) H') xs vs) : ER C (ρ.set i (.ow xs)) (σ.set i (some (.ref p))) H' := by
  have hi' : i < σ.length := by rw [← h.len]; exact hi
  have sub : ∀ j a, ownAt (ρ.set i (.ow xs)) (σ.set i (some (.ref p))) j a → (j = i ∧ a = p) ∨ (j ≠ i ∧ ownAt ρ σ j a) := fun j a ⟨h1, h2⟩ => by
    by_cases ej : i = j
    · subst ej
      rw [List.getElem?_set_self hi'] at h2
      cases h2
      exact .inl ⟨rfl, rfl⟩
    · rw [sl_set_ne ej] at h1
      rw [List.getElem?_set_ne ej] at h2
      exact .inr ⟨Ne.symm ej, h1, h2⟩
  have there : ∀ j a, ownAt ρ σ j a → ∃ o, H a = some o := fun j a ho => by
    cases q : sl ρ j with
    | ow ys =>
      obtain ⟨b, ws, h1, h2, _⟩ := h.ow q
      rw [ho.2] at h1
      cases h1
      exact ⟨_, h2⟩
    | oo c nf ys =>
      obtain ⟨b, dx, ws, h1, h2, _⟩ := h.oo q
      rw [ho.2] at h1
      cases h1
      exact ⟨_, h2⟩
    | _ =>
      have z := ho.1
      rw [q] at z
      exact z.elim
  have subS : ∀ a, C.S (ρ.set i (.ow xs)) (σ.set i (some (.ref p))) a → C.S ρ σ a ∨ a = p := fun a z => by
    rcases z with z | ⟨j, z⟩
    · exact .inl (.inl z)
    · rcases sub j a z with ⟨_, q⟩ | ⟨_, q⟩
      · exact .inr q
      · exact .inl (.inr ⟨j, q⟩)
  have np' : ∀ a o, H a = some o → a ≠ p := fun a o q z => by
    rw [z, np] at q
    cases q
  have sm : Same (hid (C.S ρ σ) H) (hid (C.S (ρ.set i (.ow xs)) (σ.set i (some (.ref p)))) H') := fun a o q => by
    obtain ⟨q1, q2⟩ := hid_some.mp q
    refine hid_some.mpr ⟨fun z => ?_, e _ _ q2⟩
    rcases subS a z with z | z
    · exact q1 z
    · exact np' a o q2 z
  refine ⟨by rw [List.length_set, List.length_set]; exact h.len, fun j => ?_, fun j k a h1 h2 => ?_, h.le0.trans e, fun a z => let ⟨o, q⟩ := h.bin a z; ⟨o, e _ _ q⟩⟩
  · by_cases ej : i = j
    · subst ej
      rw [sl_set_eq hi, List.getElem?_set_self hi']
      refine ⟨p, vs, rfl, hp, fun z => ?_, ?_, hz, Reps.mono (hid_sub subS) _ _ r⟩
      · obtain ⟨o, q⟩ := h.bin p z
        rw [np] at q
        cases q
      · cases q : C.H0 p with
        | none => rfl
        | some o =>
          have z := h.le0 p o q
          rw [np] at z
          cases z
    · rw [sl_set_ne ej, List.getElem?_set_ne ej]
      exact (h.at_ j).mono e sm
  · rcases sub j a h1 with ⟨e1, e2⟩ | ⟨e1, e2⟩
    · rcases sub k a h2 with ⟨e3, e4⟩ | ⟨e3, e4⟩
      · rw [e1, e3]
      · obtain ⟨o, q⟩ := there k a e4
        exact absurd e2 (np' a o q)
    · rcases sub k a h2 with ⟨e3, e4⟩ | ⟨e3, e4⟩
      · obtain ⟨o, q⟩ := there j a e2
        exact absurd e4 (np' a o q)
      · exact h.nd j k a e2 e4
/-- what is our own is changed -/
theorem ER.mut (h : ER C ρ σ H) {i : Nat} {s s' : Slot} {a : Addr} {o : HO} (hi : i < ρ.length) (es : sl ρ i = s) (ho : isOwn s) (ho' : isOwn s') (ea : σ[i]? = some (some (.ref a)))
    (hs : ∀ Hd, Same (hid (C.S ρ σ) H) Hd → SlotRep C (upd H a o) Hd s' (some (some (.ref a)))) : ER C (ρ.set i s') σ (upd H a o) := by
  have oa : ownAt ρ σ i a := ⟨by rw [es]; exact ho, ea⟩
  have iff_ : ∀ j b, ownAt (ρ.set i s') σ j b ↔ ownAt ρ σ j b := fun j b => by
    by_cases ej : i = j
    · subst ej
      unfold ownAt
      rw [sl_set_eq hi, es]
      exact ⟨fun z => ⟨ho, z.2⟩, fun z => ⟨ho', z.2⟩⟩
    · unfold ownAt
      rw [sl_set_ne ej]
  have eS : C.S (ρ.set i s') σ = C.S ρ σ := by
    funext b
    show (C.B b ∨ ∃ j, ownAt (ρ.set i s') σ j b) = (C.B b ∨ ∃ j, ownAt ρ σ j b)
    simp only [iff_]
  have sm : Same (hid (C.S ρ σ) H) (hid (C.S (ρ.set i s') σ) (upd H a o)) := by
    rw [eS]
    exact hid_off (.inr ⟨i, oa⟩)
  have oth : ∀ j b, j ≠ i → ownAt ρ σ j b → b ≠ a := fun j b hj hb e => hj (h.nd j i a (by rw [← e]; exact hb) oa)
  have na : ∀ (b : Addr) (u : HO), C.H0 b = some u → b ≠ a := fun b u q e => by
    have z := h.at_ i
    rw [es, ea] at z
    cases s with
    | ow xs =>
      obtain ⟨a', vs, h1, _, _, h4, _⟩ := z
      cases h1
      rw [e, h4] at q
      cases q
    | oo c nf xs =>
      obtain ⟨a', dx, vs, h1, _, _, h4, _⟩ := z
      cases h1
      rw [e, h4] at q
      cases q
    | _ => exact ho.elim
  refine ⟨by rw [List.length_set]; exact h.len, fun j => ?_, fun j k b h1 h2 => h.nd j k b ((iff_ j b).mp h1) ((iff_ k b).mp h2), fun b u q => ?_, fun b z => ?_⟩
  · by_cases ej : i = j
    · subst ej
      rw [sl_set_eq hi, ea]
      exact hs _ sm
    · rw [sl_set_ne ej]
      have z := h.at_ j
      cases q : sl ρ j with
      | un => exact True.intro
      | fr x =>
        rw [q] at z
        obtain ⟨w, h1, h2⟩ := z
        exact ⟨w, h1, Rep.mono sm _ _ h2⟩
      | ex c =>
        rw [q] at z
        exact z
      | ow xs =>
        rw [q] at z
        obtain ⟨b, vs, h1, h2, h3, h4, h5, h6⟩ := z
        refine ⟨b, vs, h1, ?_, h3, h4, h5, Reps.mono sm _ _ h6⟩
        rw [upd_ne (oth j b (Ne.symm ej) ⟨by rw [q]; exact True.intro, h1⟩)]
        exact h2
      | oo c nf xs =>
        rw [q] at z
        obtain ⟨b, dx, vs, h1, h2, h3, h4, h5, h6⟩ := z
        refine ⟨b, dx, vs, h1, ?_, h3, h4, h5, Reps.mono sm _ _ h6⟩
        rw [upd_ne (oth j b (Ne.symm ej) ⟨by rw [q]; exact True.intro, h1⟩)]
        exact h2
  · rw [upd_ne (na b u q)]
    exact h.le0 b u q
  · by_cases e : b = a
    · subst e
      exact ⟨o, upd_same⟩
    · obtain ⟨u, q⟩ := h.bin b z
      exact ⟨u, by rw [upd_ne e]; exact q⟩

/-- a statement's frame -/
structure Step (ρ : Env') (σ : L2.St) (H : Hp) (ρ' : Env') (σ' : L2.St) (H' : Hp) : Prop where
  keep : ∀ a o, H a = some o → ¬ own ρ σ a → H' a = some o
  newo : ∀ a, own ρ' σ' a → own ρ σ a ∨ H a = none
  dom : ∀ a o, H a = some o → ∃ o', H' a = some o'
theorem Step.refl : Step ρ σ H ρ σ H := ⟨fun _ _ h _ => h, fun _ h => .inl h, fun _ o h => ⟨o, h⟩⟩
theorem Step.trans {ρ1 ρ2 : Env'} {σ1 σ2 : L2.St} {H1 H2 : Hp} (a : Step ρ σ H ρ1 σ1 H1) (b : Step ρ1 σ1 H1 ρ2 σ2 H2) : Step ρ σ H ρ2 σ2 H2 := by
  refine ⟨fun x o h n => b.keep x o (a.keep x o h n) fun z => ?_, fun x z => ?_, fun x o h => let ⟨o1, h1⟩ := a.dom x o h; b.dom x o1 h1⟩
  · rcases a.newo x z with q | q
    · exact n q
    · rw [h] at q
      cases q
  · rcases b.newo x z with q | q
    · exact a.newo x q
    · right
      cases e : H x with
      | none => rfl
      | some o =>
        obtain ⟨o1, h1⟩ := a.dom x o e
        rw [q] at h1
        cases h1
theorem Step.less {ρ' : Env'} {σ' : L2.St} (e : Same H H') (h : ∀ a, own ρ' σ' a → own ρ σ a) : Step ρ σ H ρ' σ' H' := ⟨fun a o q _ => e a o q, fun a z => .inl (h a z), fun a o q => ⟨o, e a o q⟩⟩
theorem Step.ext (e : Same H H') : Step ρ σ H ρ σ H' := Step.less e fun _ h => h
end
end MP

/-! MP, part 3: readings, rules. -/
namespace MP
open PySem PySem.Spec PyProof.Rows L2

abbrev Wh := Nat → L2.St → Hp → Prop
def EV (C : Cfg) (W : Wh) (S : Addr → Prop) (r : R PV) (σ : L2.St) (H : Hp) (Q : VK) : Prop := match r with
  | .ok x => ∀ v H', Same H H' → Rep C.K C.G (hid S H') x v → Q v H'
  | .exc c => ∀ H', Same H H' → W c σ H'
  | .stuck => False
/-- a value whose own top may be hidden -/
def RepT (K : PySem.W.Frag) (G : Gx) (H Hd : Hp) : PV → V → Prop
  | .lst xs, v => ∃ a vs, v = .ref a ∧ H a = some (.lst vs) ∧ xs.length ≤ szL ∧ Reps K G Hd xs vs
  | x, v => Rep K G Hd x v
def EVt (C : Cfg) (W : Wh) (S : Addr → Prop) (r : R PV) (σ : L2.St) (H : Hp) (Q : VK) : Prop := match r with
  | .ok x => ∀ v H', Same H H' → RepT C.K C.G H' (hid S H') x v → Q v H'
  | .exc c => ∀ H', Same H H' → W c σ H'
  | .stuck => False
/-- a new list -/
def EVf (C : Cfg) (W : Wh) (S : Addr → Prop) (r : R PV) (σ : L2.St) (H : Hp) (Q : VK) : Prop := match r with
  | .ok (.lst xs) => ∀ p vs H', Same H H' → H p = none → H' p = some (.lst vs) → xs.length ≤ szL → Reps C.K C.G (hid (fun a => S a ∨ a = p) H') xs vs → Q (.ref p) H'
  | .ok _ => False
  | .exc c => ∀ H', Same H H' → W c σ H'
  | .stuck => False
def EVs (C : Cfg) (W : Wh) (S : Addr → Prop) (r : R (List PV)) (σ : L2.St) (H : Hp) (Q : List V → Hp → Prop) : Prop := match r with
  | .ok xs => ∀ vs H', Same H H' → Reps C.K C.G (hid S H') xs vs → Q vs H'
  | .exc c => ∀ H', Same H H' → W c σ H'
  | .stuck => False
def RepTs (K : PySem.W.Frag) (G : Gx) (H Hd : Hp) : List PV → List V → Prop
  | [], vs => vs = []
  | x :: xs, vs => ∃ v r, vs = v :: r ∧ RepT K G H Hd x v ∧ RepTs K G H Hd xs r
def EVts (C : Cfg) (W : Wh) (S : Addr → Prop) (r : R (List PV)) (σ : L2.St) (H : Hp) (Q : List V → Hp → Prop) : Prop := match r with
  | .ok xs => ∀ vs H', Same H H' → RepTs C.K C.G H' (hid S H') xs vs → Q vs H'
  | .exc c => ∀ H', Same H H' → W c σ H'
  | .stuck => False
def EVb (W : Wh) (r : R Bool) (σ : L2.St) (H : Hp) (Q : Bool → Hp → Prop) : Prop := match r with
  | .ok b => ∀ H', Same H H' → Q b H'
  | .exc c => ∀ H', Same H H' → W c σ H'
  | .stuck => False
abbrev tE (C : Cfg) (W : Wh) (ρ : Env') (r : R PV) : TE := fun σ H Q => ER C ρ σ H ∧ EV C W (C.S ρ σ) r σ H Q
abbrev tT (C : Cfg) (W : Wh) (ρ : Env') (r : R PV) : TE := fun σ H Q => ER C ρ σ H ∧ EVt C W (C.S ρ σ) r σ H Q
abbrev tF (C : Cfg) (W : Wh) (ρ : Env') (r : R PV) : TE := fun σ H Q => ER C ρ σ H ∧ EVf C W (C.S ρ σ) r σ H Q
abbrev tA (C : Cfg) (W : Wh) (ρ : Env') (r : R (List PV)) : TA := fun σ H Q => ER C ρ σ H ∧ EVs C W (C.S ρ σ) r σ H Q
abbrev tAT (C : Cfg) (W : Wh) (ρ : Env') (r : R (List PV)) : TA := fun σ H Q => ER C ρ σ H ∧ EVts C W (C.S ρ σ) r σ H Q
abbrev tTb (C : Cfg) (W : Wh) (ρ : Env') (r : R Bool) : TT := fun σ H Q => ER C ρ σ H ∧ EVb W r σ H Q

section
variable {C : Cfg} {W : Wh} {S : Addr → Prop} {σ : L2.St} {H H1 : Hp} {Q : VK} {K : PySem.W.Frag} {G : Gx} {Hd : Hp}
theorem EV.mono {r : R PV} (h : EV C W S r σ H Q) (e : Same H H1) : EV C W S r σ H1 Q := by
  cases r with
  | ok x => exact fun v H' s q => h v H' (e.trans s) q
  | exc c => exact fun H' s => h H' (e.trans s)
  | stuck => exact h
theorem EVt.mono {r : R PV} (h : EVt C W S r σ H Q) (e : Same H H1) : EVt C W S r σ H1 Q := by
  cases r with
  | ok x => exact fun v H' s q => h v H' (e.trans s) q
  | exc c => exact fun H' s => h H' (e.trans s)
  | stuck => exact h
theorem EVs.mono {r : R (List PV)} {Q : List V → Hp → Prop} (h : EVs C W S r σ H Q) (e : Same H H1) : EVs C W S r σ H1 Q := by
  cases r with
  | ok x => exact fun v H' s q => h v H' (e.trans s) q
  | exc c => exact fun H' s => h H' (e.trans s)
  | stuck => exact h
theorem EVb.mono {r : R Bool} {Q : Bool → Hp → Prop} (h : EVb W r σ H Q) (e : Same H H1) : EVb W r σ H1 Q := by
  cases r with
  | ok x => exact fun H' s => h H' (e.trans s)
  | exc c => exact fun H' s => h H' (e.trans s)
  | stuck => exact h
theorem RepT.of {x : PV} {v : V} (h : Rep K G Hd x v) (e : Same Hd H) : RepT K G H Hd x v := by
  cases x with
  | lst xs =>
    obtain ⟨a, vs, h1, h2, h3, h4⟩ := h
    exact ⟨a, vs, h1, e _ _ h2, h3, h4⟩
  | _ => exact h
theorem RepT.rep {x : PV} {v : V} (h : RepT K G H Hd x v) (e : Same Hd H) : Rep K G H x v := by
  cases x with
  | lst xs =>
    obtain ⟨a, vs, h1, h2, h3, h4⟩ := h
    exact ⟨a, vs, h1, h2, h3, Reps.mono e _ _ h4⟩
  | _ => exact Rep.mono e _ _ h
theorem RepT.mono {x : PV} {v : V} {H' Hd' : Hp} (h : RepT K G H Hd x v) (e : Same H H') (e' : Same Hd Hd') : RepT K G H' Hd' x v := by
  cases x with
  | lst xs =>
    obtain ⟨a, vs, h1, h2, h3, h4⟩ := h
    exact ⟨a, vs, h1, e _ _ h2, h3, Reps.mono e' _ _ h4⟩
  | _ => exact Rep.mono e' _ _ h
/-- the step behind an operand -/
theorem EVt.step {α : Type} {ra : R PV} {f : PV → R α} {T : VK} {Z : R α → Hp → Prop} (hx : ∀ c H, Z (.exc c) H → ∀ H', Same H H' → W c σ H') (hs : ∀ H, ¬ Z .stuck H) (hm : ∀ r H H', Same H H' → Z r H → Z r H') (h : Z (ra.bnd f) H)
    (k : ∀ x v H1, Same H H1 → RepT C.K C.G H1 (hid S H1) x v → Z (f x) H1 → T v H1) : EVt C W S ra σ H T := by
  cases ra with
  | ok x => exact fun v H1 s q => k x v H1 s q (hm _ _ _ s h)
  | exc c => exact hx c H h
  | stuck => exact hs H h
theorem EV.step {α : Type} {ra : R PV} {f : PV → R α} {T : VK} {Z : R α → Hp → Prop} (hx : ∀ c H, Z (.exc c) H → ∀ H', Same H H' → W c σ H') (hs : ∀ H, ¬ Z .stuck H) (hm : ∀ r H H', Same H H' → Z r H → Z r H') (h : Z (ra.bnd f) H)
    (k : ∀ x v H1, Same H H1 → Rep C.K C.G (hid S H1) x v → Z (f x) H1 → T v H1) : EV C W S ra σ H T := by
  cases ra with
  | ok x => exact fun v H1 s q => k x v H1 s q (hm _ _ _ s h)
  | exc c => exact hx c H h
  | stuck => exact hs H h
theorem EVs.step {α : Type} {ra : R (List PV)} {f : List PV → R α} {T : List V → Hp → Prop} {Z : R α → Hp → Prop} (hx : ∀ c H, Z (.exc c) H → ∀ H', Same H H' → W c σ H') (hs : ∀ H, ¬ Z .stuck H) (hm : ∀ r H H', Same H H' → Z r H → Z r H') (h : Z (ra.bnd f) H)
    (k : ∀ x v H1, Same H H1 → Reps C.K C.G (hid S H1) x v → Z (f x) H1 → T v H1) : EVs C W S ra σ H T := by
  cases ra with
  | ok x => exact fun v H1 s q => k x v H1 s q (hm _ _ _ s h)
  | exc c => exact hx c H h
  | stuck => exact hs H h
theorem EVts.step {α : Type} {ra : R (List PV)} {f : List PV → R α} {T : List V → Hp → Prop} {Z : R α → Hp → Prop} (hx : ∀ c H, Z (.exc c) H → ∀ H', Same H H' → W c σ H') (hs : ∀ H, ¬ Z .stuck H) (hm : ∀ r H H', Same H H' → Z r H → Z r H') (h : Z (ra.bnd f) H)
    (k : ∀ x v H1, Same H H1 → RepTs C.K C.G H1 (hid S H1) x v → Z (f x) H1 → T v H1) : EVts C W S ra σ H T := by
  cases ra with
  | ok x => exact fun v H1 s q => k x v H1 s q (hm _ _ _ s h)
  | exc c => exact hx c H h
  | stuck => exact hs H h
theorem EVb.step {α : Type} {ra : R Bool} {f : Bool → R α} {T : Bool → Hp → Prop} {Z : R α → Hp → Prop} (hx : ∀ c H, Z (.exc c) H → ∀ H', Same H H' → W c σ H') (hs : ∀ H, ¬ Z .stuck H) (hm : ∀ r H H', Same H H' → Z r H → Z r H') (h : Z (ra.bnd f) H)
    (k : ∀ x H1, Same H H1 → Z (f x) H1 → T x H1) : EVb W ra σ H T := by
  cases ra with
  | ok x => exact fun H1 s => k x H1 s (hm _ _ _ s h)
  | exc c => exact hx c H h
  | stuck => exact hs H h
end
/-- the three facts that a continuation's reading has -/
structure Zc' (W : Wh) (σ : L2.St) {α : Type} (Z : R α → Hp → Prop) : Prop where
  hx : ∀ c H, Z (.exc c) H → ∀ H', Same H H' → W c σ H'
  hs : ∀ H, ¬ Z .stuck H
  hm : ∀ r H H', Same H H' → Z r H → Z r H'
section
variable {C : Cfg} {W : Wh} {S : Addr → Prop} {σ : L2.St} {Q : VK}
theorem zE : Zc' W σ (fun r H => EV C W S r σ H Q) := ⟨fun _ _ h => h, fun _ h => h, fun _ _ _ e h => h.mono e⟩
theorem zT : Zc' W σ (fun r H => EVt C W S r σ H Q) := ⟨fun _ _ h => h, fun _ h => h, fun _ _ _ e h => h.mono e⟩
theorem zS {Q : List V → Hp → Prop} : Zc' W σ (fun r H => EVs C W S r σ H Q) := ⟨fun _ _ h => h, fun _ h => h, fun _ _ _ e h => h.mono e⟩
theorem zB {Q : Bool → Hp → Prop} : Zc' W σ (fun r H => EVb W r σ H Q) := ⟨fun _ _ h => h, fun _ h => h, fun _ _ _ e h => h.mono e⟩
end

/-! ### judgements weakened, joined -/
theorem _root_.L2.PE.imp {X : Cx} {e : Expr} {t t' : TE} (h : PE X e t) (k : ∀ σ H Q, t' σ H Q → t σ H Q) : PE X e t' := ⟨fun pins s σ H Q I q => h.run pins s σ H Q I (k σ H Q q)⟩
theorem _root_.L2.PT.imp {X : Cx} {e : Expr} {t t' : TT} (h : PT X e t) (k : ∀ σ H Q, t' σ H Q → t σ H Q) : PT X e t' := ⟨fun pins s σ H Q I q => h.run pins s σ H Q I (k σ H Q q)⟩
theorem _root_.L2.PW.imp {X : Cx} {e : Expr} {t t' : TT} (h : PW X e t) (k : ∀ σ H Q, t' σ H Q → t σ H Q) : PW X e t' := ⟨fun wh pins s σ H Q I q => h.run wh pins s σ H Q I (k σ H Q q)⟩
theorem _root_.L2.PA.imp {X : Cx} {e : List Expr} {t t' : TA} (h : PA X e t) (k : ∀ σ H Q, t' σ H Q → t σ H Q) : PA X e t' := ⟨fun pos pins s σ H Q I q => h.run pos pins s σ H Q I (k σ H Q q)⟩
theorem _root_.L2.PS.imp {X : Cx} {e : Stmt} {t t' : TS} (h : PS X e t) (k : ∀ D σ H, t' D σ H → t D σ H) : PS X e t' := ⟨fun pins s σ H D I q => h.run pins s σ H D I (k D σ H q)⟩
theorem _root_.L2.PSs.imp {X : Cx} {e : List Stmt} {t t' : TS} (h : PSs X e t) (k : ∀ D σ H, t' D σ H → t D σ H) : PSs X e t' := ⟨fun pins s σ H D I q => h.run pins s σ H D I (k D σ H q)⟩
theorem _root_.L2.PG.imp {X : Cx} {e : Expr} {t t' : TG} (h : PG X e t) (k : ∀ v σ H Q, t' v σ H Q → t v σ H Q) : PG X e t' := ⟨fun pins s σ H v u Q I r q => h.run pins s σ H v u Q I r (k v σ H Q q)⟩
theorem _root_.L2.PI.imp {X : Cx} {tg e : Expr} {t t' : TI} (h : PI X tg e t) (k : ∀ σ H R, t' σ H R → t σ H R) : PI X tg e t' := ⟨fun pins s σ H R I q => h.run pins s σ H R I (k σ H R q)⟩
theorem _root_.L2.PTs.imp {X : Cx} {e : List Expr} {t t' : TT} (h : PTs X e t) (k : ∀ σ H Q, t' σ H Q → t σ H Q) : PTs X e t' := ⟨fun pins s σ H Q I q => h.run pins s σ H Q I (k σ H Q q)⟩
theorem _root_.L2.PE.ex {X : Cx} {e : Expr} {ι : Type} {t : ι → TE} (h : ∀ i, PE X e (t i)) : PE X e (fun σ H Q => ∃ i, t i σ H Q) := ⟨fun pins s σ H Q I ⟨i, q⟩ => (h i).run pins s σ H Q I q⟩
theorem _root_.L2.PTs.ex {X : Cx} {e : List Expr} {ι : Type} {t : ι → TT} (h : ∀ i, PTs X e (t i)) : PTs X e (fun σ H Q => ∃ i, t i σ H Q) := ⟨fun pins s σ H Q I ⟨i, q⟩ => (h i).run pins s σ H Q I q⟩
theorem _root_.L2.PT.ex {X : Cx} {e : Expr} {ι : Type} {t : ι → TT} (h : ∀ i, PT X e (t i)) : PT X e (fun σ H Q => ∃ i, t i σ H Q) := ⟨fun pins s σ H Q I ⟨i, q⟩ => (h i).run pins s σ H Q I q⟩
theorem _root_.L2.PSs.ex {X : Cx} {e : List Stmt} {ι : Type} {t : ι → TS} (h : ∀ i, PSs X e (t i)) : PSs X e (fun D σ H => ∃ i, t i D σ H) := ⟨fun pins s σ H D I ⟨i, q⟩ => (h i).run pins s σ H D I q⟩
theorem _root_.L2.PG.ex {X : Cx} {e : Expr} {ι : Type} {t : ι → TG} (h : ∀ i, PG X e (t i)) : PG X e (fun v σ H Q => ∃ i, t i v σ H Q) := ⟨fun pins s σ H v u Q I r ⟨i, q⟩ => (h i).run pins s σ H v u Q I r q⟩
theorem _root_.L2.PG.or {X : Cx} {e : Expr} {t t' : TG} (h : PG X e t) (h' : PG X e t') : PG X e (fun v σ H Q => t v σ H Q ∨ t' v σ H Q) := ⟨fun pins s σ H v u Q I r q => q.elim (h.run pins s σ H v u Q I r) (h'.run pins s σ H v u Q I r)⟩
theorem _root_.L2.PI.or {X : Cx} {tg e : Expr} {t t' : TI} (h : PI X tg e t) (h' : PI X tg e t') : PI X tg e (fun σ H R => t σ H R ∨ t' σ H R) := ⟨fun pins s σ H R I q => q.elim (h.run pins s σ H R I) (h'.run pins s σ H R I)⟩

/-! ### syntax -/
def isSet : Expr → Bool
  | .Set _ _ _ => true
  | _ => false
theorem folded_of {e : Expr} (h : isSet e = false) (env : Env) (x : Value) : foldedSetIterable e env x = pure x := by
  cases e <;> first | rfl | cases h
def isStar : Expr → Bool
  | .Starred _ _ => true
  | _ => false
theorem star_of {e : Expr} (h : isStar e = false) (es : List Expr) (env : Env) : starEach (e :: es) env = (false, eval e env) :: starEach es env := by
  cases e <;> first | rfl | cases h
theorem star_plain {es : List Expr} (h : es.all (fun e => !isStar e) = true) (env : Env) (pos : Pos) : (backTo pos (starEach es env)).any (·.1) = false := by
  induction es with
  | nil => rfl
  | cons e r ih =>
    rw [List.all_cons, Bool.and_eq_true] at h
    have h1 : isStar e = false := by simpa using h.1
    rw [star_of h1]
    show (false || (backTo pos (starEach r env)).any (·.1)) = false
    rw [ih h.2]
    rfl
def isSlice : Expr → Bool
  | .Slice _ _ _ _ => true
  | _ => false
theorem plain_ix {e : Expr} (h : isSlice e = false) : PlainIx e := by
  intro o i
  cases e <;> first | rfl | cases h
def isLc : Expr → Bool
  | .ListComp _ _ _ _ => true
  | .SetComp _ _ _ _ => true
  | .DictComp _ _ _ _ _ => true
  | _ => false
theorem swaps_of {e : Expr} (h : isLc e = false) (t : Option Expr) (l : Nat) (env : Env) : swapsWith e t l env = pure false := by
  cases e <;> first | rfl | cases h
def isSuper : Expr → Bool
  | .Call (.Name _ _) [] [] _ => true
  | _ => false
theorem base_of {o : Expr} (h : isSuper o = false) (f : Str) (env : Env) (m : Sem Value) : attributeBase o f env m = m := by
  unfold attributeBase
  split
  · cases h
  · rfl
/-- an expression whose test is its truth -/
def isPlainT : Expr → Bool
  | .UnaryOp .Not _ _ => false
  | .BoolOp _ _ _ => false
  | .IfExp _ _ _ _ => false
  | .Compare _ _ _ _ => false
  | _ => true
theorem plain_t {e : Expr} (h : isPlainT e = true) (env : Env) (whole : Sem Value) : isTrue e env whole = (do let v ← whole; standAt e.pos; holding [v] (truthy v)) := by
  cases e with
  | UnaryOp op x p => cases op <;> first | rfl | cases h
  | _ => first | rfl | cases h
def visB (sc : Scope) (x : Str) : Bool := match sc.names.lookup x with
  | some .local => true
  | some .cell => true
  | some .free => true
  | _ => false
theorem vis_of {sc : Scope} {x : Str} (h : visB sc x = true) : Vis sc x := by
  unfold visB at h
  split at h
  · exact .inl (by assumption)
  · exact .inr (.inl (by assumption))
  · exact .inr (.inr (by assumption))
  · cases h
def locB (sc : Scope) (fnb : Str → Bool) (x : Str) : Bool := match sc.names.lookup x with
  | some .local => true
  | some .cell => fnb x
  | _ => false
def glB (sc : Scope) (x : Str) : Bool := (match sc.names.lookup x with
  | some .globalImplicit => true
  | _ => false) && !(x == ("__debug__" : Str))
def okN (x : Str) : Bool := !(x == ("__debug__" : Str)) && !(x == ("__classdict__" : Str))
def nmOf : Expr → Option Str
  | .Name x _ => some x
  | _ => none

/-! ### what stands fast -/
structure Cz where
  P : Program
  w : World
  K : PySem.W.Frag
  mg : Str → Option Value
  base : Heap
  N : List Str
  sc : Scope
  fnb : Str → Bool
  L : Nat
  G : Gx
structure Good0 (z : Cz) (X : Cx) : Prop where
  hP : X.prog = z.P
  hw : X.w = z.w
  hK : X.K = z.K
  hmg : X.mg = z.mg
  hb : X.base = z.base
  hN : X.N = z.N
  nd : z.N.Nodup
  hsc : X.env.scope = z.sc
  hfn : ∀ x, z.fnb x = true → X.fn x = true
structure Good1 (z : Cz) (X : Cx) (W : Wh) : Prop where
  calm : X.calm = true
  room : Room z.L X.A
  pass : PassesOwn (model X.prog X.w) X.A X.env X.xe
  tk : Takes X (fun cls d σ H => ∃ c, cls = .ref (z.G.cl c) ∧ d = none ∧ W c σ H)
structure GoodC (z : Cz) (X : Cx) (C : Cfg) : Prop where
  hK : C.K = z.K
  hG : C.G = z.G
  xc : ∀ a c, C.xa = some (a, c) → CallR X (.builtin "isinstance") (rIsE X.K (z.G.cl c) a)
theorem Good0.gl {z : Cz} {X : Cx} (g : Good0 z X) {x : Str} (h : glB z.sc x = true) : Gl X x ∧ (x == ("__debug__" : Str)) = false := by
  unfold glB at h
  rw [Bool.and_eq_true] at h
  refine ⟨?_, by simpa using h.2⟩
  show X.env.scope.names.lookup x = _
  rw [g.hsc]
  have h1 := h.1
  split at h1
  · assumption
  · cases h1
theorem Good0.loc {z : Cz} {X : Cx} (g : Good0 z X) {x : Str} (h : locB z.sc z.fnb x = true) : Loc X.env.scope x ∧ (X.fn x = true ∨ X.env.scope.names.lookup x = some .local) := by
  rw [g.hsc]
  unfold locB at h
  split at h
  · rename_i e
    exact ⟨.inl e, .inr e⟩
  · rename_i e
    exact ⟨.inr e, .inl (g.hfn x h)⟩
  · cases h

/-! ### the contract of a def -/
def spOf (K : PySem.W.Frag) (G : Gx) (fr : Bool) (n : Nat) (g : List PV → R PV) : Sp := fun vs H Q E => vs.length = n ∧ ∃ (B : Addr → Prop) (args : List PV), (∀ a, B a → ∃ o, H a = some o) ∧ Reps K G (hid B H) args vs ∧
  match g args with
  | .ok x => (∀ v H', Same H H' → Rep K G (hid B H') x v → Q v H') ∨
      (fr = true ∧ ∃ xs, x = .lst xs ∧ ∀ p ws H', Same H H' → H p = none → H' p = some (.lst ws) → xs.length ≤ szL → Reps K G (hid (fun a => B a ∨ a = p) H') xs ws → Q (.ref p) H')
  | .exc c => ∀ H', Same H H' → E (.ref (G.cl c)) none H'
  | .stuck => False
def spInit (K : PySem.W.Frag) (G : Gx) (c n : Nat) (g : List PV → R PV) : Sp := fun vs H Q E => vs.length = n ∧ ∃ (B : Addr → Prop) (args : List PV) (x dx : Addr) (r : List V), (∀ a, B a → ∃ o, H a = some o) ∧ ¬ B x ∧ vs = .ref x :: r ∧ H x = some (.ins (G.cl c) dx []) ∧
  Reps K G (hid (fun a => B a ∨ a = x) H) args r ∧
  match g args with
  | .ok y => ∀ H', (∀ a o, a ≠ x → H a = some o → H' a = some o) → Rep K G (hid B H') y (.ref x) → Q .non H'
  | .exc e => ∀ H', (∀ a o, a ≠ x → H a = some o → H' a = some o) → E (.ref (G.cl e)) none H'
  | .stuck => False
def CallOk (z : Cz) (x : Str) (g : List PV → R PV) (fr : Bool) (dfl : List PV) : Prop := ∃ (f : Addr) (fd : FuncData) (k : Nat) (ps : List Str) (dvs : List V) (ds : List Value),
  FnOk z.P z.w z.K z.mg z.base (L2.CX z.P z.w) k f fd ps (spOf z.K z.G fr ps.length g) ∧ k ≤ z.L ∧ z.mg x = some (.ref f) ∧ PySem.W.keepIn z.K (.ref f) = true ∧ Binds z.K fd ps ds ∧ toVs dfl = some dvs ∧ Vals dvs ds ∧ ∀ args : List PV, args.length ≠ ps.length → g args = .stuck
def MethOk (z : Cz) (c : Nat) (m : Str) (g : List PV → R PV) (fr : Bool) (dfl : List PV) : Prop := ∃ (f : Addr) (fd : FuncData) (k : Nat) (ps : List Str) (dvs : List V) (ds : List Value),
  FnOk z.P z.w z.K z.mg z.base (L2.CX z.P z.w) k f fd ps (spOf z.K z.G fr ps.length g) ∧ k ≤ z.L ∧ Cls z.K (z.G.cl c) ∧ Meth z.K (z.G.cl c) m f ∧ (∀ y ∈ z.G.fld c, (y == m) = false) ∧ Binds z.K fd ps ds ∧ toVs dfl = some dvs ∧ Vals dvs ds ∧ ∀ args : List PV, args.length ≠ ps.length → g args = .stuck
def MkOk (z : Cz) (x : Str) (c : Nat) (g : List PV → R PV) (dfl : List PV) : Prop := ∃ (f : Addr) (fd : FuncData) (k : Nat) (ps : List Str) (dvs : List V) (ds : List Value),
  FnOk z.P z.w z.K z.mg z.base (L2.CX z.P z.w) k f fd ps (spInit z.K z.G c ps.length g) ∧ k + 1 ≤ z.L ∧ z.mg x = some (.ref (z.G.cl c)) ∧ Mk z.K (z.G.cl c) f ∧ Binds z.K fd ps ds ∧ toVs dfl = some dvs ∧ Vals dvs ds ∧ ∀ args : List PV, args.length + 1 ≠ ps.length → g args = .stuck

/-! ### calls -/
section
variable {z : Cz} {X : Cx} {W : Wh} {C : Cfg}
theorem toVs_reps {K : PySem.W.Frag} {G : Gx} {H : Hp} : ∀ {xs : List PV} {vs : List V}, toVs xs = some vs → Reps K G H xs vs
  | [], vs, h => by
    cases h
    exact rfl
  | x :: xs, vs, h => by
    unfold toVs at h
    split at h
    · rename_i a b ha hb
      cases h
      exact .cons (flat_rep ha) (toVs_reps hb)
    · cases h
/-- the wish of a call at the slots σ -/
def wE (z : Cz) (W : Wh) (σ : L2.St) : XK := fun cls d H => ∃ c, cls = .ref (z.G.cl c) ∧ d = none ∧ W c σ H
theorem passW (g0 : Good0 z X) (g1 : Good1 z X W) (σ : L2.St) : PassesAt (L2.CX z.P z.w) X σ (wE z W σ) := by
  have h := passAt g1.tk σ
  rw [g0.hP, g0.hw] at h
  exact h
theorem run_fnG {k : Nat} {f : Addr} {fd : FuncData} {ps : List Str} {sp : Sp} {dvs : List V} {ds : List Value} {E : XK} {pins : List (Addr × Obj)} {σ : L2.St} {H : Hp} {s : Shared} {Q : VK} {us : List Value} {vs : List V} {CXt : CXT}
    (F : FnOk X.prog X.w X.K X.mg X.base CXt k f fd ps sp) (hr : Room k X.A) (hb : Binds X.K fd ps ds) (hd : Vals dvs ds) (hx : PassesAt CXt X σ E)
    (I : Inv X pins σ H s) (r : Vals vs us) (h : sp (vs ++ dvs) H Q E) : wpAny (model X.prog X.w) X.A (call (.ref f) us) (EP X pins σ Q) X.xe s := by
  have r2 : Vals (vs ++ dvs) (us ++ ds) := r.append hd
  have hl : (us ++ ds).length = ps.length := by rw [← r2.length]; exact F.len _ _ _ _ h
  refine wpAny_call (codeAny_mono (F.run X.A X.stack s H ⟨us, []⟩ (us ++ ds) (vs ++ dvs) Q E hr I.env0 (hb s us I.kIn hl) r2 h) fun r s' hq => ?_)
  cases r with
  | error e => exact hx pins H s e s' I hq
  | ok fl =>
    cases fl with
    | ret u => exact I.after hq
    | next => exact False.elim hq
    | brk => exact False.elim hq
    | cont => exact False.elim hq
theorem run_makeG {k : Nat} {f Cc : Addr} {fd : FuncData} {ps : List Str} {sp : Sp} {dvs : List V} {ds : List Value} {E : XK} {pins : List (Addr × Obj)} {σ : L2.St} {H : Hp} {s : Shared} {Q : VK} {us : List Value} {vs : List V} {CXt : CXT}
    (M : Mk X.K Cc f) (F : FnOk X.prog X.w X.K X.mg X.base CXt k f fd ps sp) (hr : Room (k + 1) X.A) (hb : Binds X.K fd ps ds) (hd : Vals dvs ds)
    (hx : PassesAt CXt X σ E) (I : Inv X pins σ H s) (r : Vals vs us)
    (h : ∀ x dx, H x = none → H dx = none → dx ≠ x → sp (.ref x :: (vs ++ dvs)) (upd (upd H dx (.own x)) x (.ins Cc dx [])) (fun v H2 => v = .non ∧ Q (.ref x) H2) E) :
    wpAny (model X.prog X.w) X.A (call (.ref Cc) us) (EP X pins σ Q) X.xe s := by
  have hq := h (s.heap.objs.size + 1) s.heap.objs.size (I.hok.fresh (Nat.le_succ _)) (I.hok.fresh (Nat.le_refl _)) (Nat.ne_of_lt (Nat.lt_succ_self _))
  have I2 := Inv.made (C := Cc) I
  have r2 : Vals (V.ref (s.heap.objs.size + 1) :: (vs ++ dvs)) (Value.ref (s.heap.objs.size + 1) :: (us ++ ds)) := .cons rfl (r.append hd)
  have hl : (Value.ref (s.heap.objs.size + 1) :: us ++ ds).length = ps.length := by
    have e := r2.length
    rw [F.len _ _ _ _ hq] at e
    exact e.symm
  refine wpAny_call (make_map (f := f) I.kIn M.makes M.init (beq_iff_eq.mp M.fn) (codeAny_mono (F.run _ X.stack _ _ ⟨Value.ref (s.heap.objs.size + 1) :: us, []⟩ (Value.ref (s.heap.objs.size + 1) :: (us ++ ds)) _ _ E (hr.make Cc us [])
    (I2.env0.make Cc us []) (hb _ (Value.ref (s.heap.objs.size + 1) :: us) I2.kIn hl) r2 hq) fun r s' hq' => ?_))
  cases r with
  | error e => exact hx pins _ _ e s' I2 hq'
  | ok fl =>
    cases fl with
    | ret u =>
      obtain ⟨v, H', I3, rv, ev, q3⟩ := I2.after hq'
      subst ev
      exact ⟨rv, ⟨V.ref (s.heap.objs.size + 1), H', I3, rfl, q3⟩⟩
    | next => exact False.elim hq'
    | brk => exact False.elim hq'
    | cont => exact False.elim hq'
/-- a callee's reading -/
def tCl (E : L2.St → XK) (sp : Sp) (dvs : List V) (t : TA) : TE := fun σ H Q => t σ H fun vs H1 => sp (vs ++ dvs) H1 Q (E σ)
theorem pe_callG {x : Str} {p pos : Pos} {e : Expr} {es : List Expr} {t : TA} {k : Nat} {f : Addr} {fd : FuncData} {ps : List Str} {sp : Sp} {dvs : List V} {ds : List Value} {E : L2.St → XK} {CXt : CXT}
    (F : FnOk X.prog X.w X.K X.mg X.base CXt k f fd ps sp) (hr : Room k X.A) (hg : Gl X x) (hdb : (x == ("__debug__" : Str)) = false) (hm : X.mg x = some (.ref f)) (hk : PySem.W.keepIn X.K (.ref f) = true) (hb : Binds X.K fd ps ds) (hd : Vals dvs ds) (hx : ∀ σ, PassesAt CXt X σ (E σ))
    (ha : PA X (e :: es) t) (hst : (e :: es).all (fun e => !isStar e) = true) : PE X (.Call (.Name x p) (e :: es) [] pos) (tCl E sp dvs t) := by
  refine ⟨fun pins s σ H Q I h => ?_⟩
  refine wpAny_Call_Name_kw (ld_glob I hg hm ?_ hdb)
  rw [List.all_cons, Bool.and_eq_true] at hst
  have h1 : isStar e = false := by simpa using hst.1
  refine PySem.W.callWith_K (h₀ := X.base) I.ok.mod.kin hk (thn (ha.run pos pins s σ H _ I h) fun us s1 ⟨vs, H1, I1, r, q⟩ => ⟨I1.kIn, ?_⟩) (star_of h1 es X.env) (star_plain hst.2 X.env pos)
  exact run_fnG F hr hb hd (hx σ) I1 r q
theorem pe_callG0 {x : Str} {p pos : Pos} {k : Nat} {f : Addr} {fd : FuncData} {ps : List Str} {sp : Sp} {dvs : List V} {ds : List Value} {E : L2.St → XK} {CXt : CXT}
    (F : FnOk X.prog X.w X.K X.mg X.base CXt k f fd ps sp) (hr : Room k X.A) (hg : Gl X x) (hdb : (x == ("__debug__" : Str)) = false) (hm : X.mg x = some (.ref f)) (hk : PySem.W.keepIn X.K (.ref f) = true) (hb : Binds X.K fd ps ds) (hd : Vals dvs ds) (hx : ∀ σ, PassesAt CXt X σ (E σ)) :
    PE X (.Call (.Name x p) [] [] pos) (tCl E sp dvs tNil) := by
  refine ⟨fun pins s σ H Q I h => ?_⟩
  refine wpAny_Call_Name_kw (ld_glob I hg hm ?_ hdb)
  exact PySem.W.callWith_K0 I.kIn hk (run_fnG (us := []) F hr hb hd (hx σ) I .nil h)
theorem meth_eval {o : Expr} {m : Str} {apos pos : Pos} {args : List Expr} {env : Env} (hs : isSuper o = false) (hst : args.all (fun e => !isStar e) = true) (hn : args.length < 30) (hl : (apos.endLine == pos.line) = true) :
    eval (.Call (.Attribute o m apos) args [] pos) env = (do
      let ov ← eval o env
      standAt apos.atName
      let (f, first) ← holding [ov] (getMethod ov m (do return (← importBound o env).getD true))
      callWith pos f first (backTo pos (starEach args env)) (backToKw pos (keywordEach [] env))) := by
  have hfew : methodCallForm (args.length + ([] : List Keyword).length) (backTo pos (starEach args env)) (backToKw pos (keywordEach [] env)) = true := by
    have h1 : ∀ es : List Expr, es.all (fun e => !isStar e) = true → (backTo pos (starEach es env)).all (fun x => !x.1) = true := by
      intro es
      induction es with
      | nil => intro _; rfl
      | cons e r ih =>
        intro h
        rw [List.all_cons, Bool.and_eq_true] at h
        have h1 : isStar e = false := by simpa using h.1
        rw [star_of h1]
        show (!false && (backTo pos (starEach r env)).all fun x => !x.1) = true
        rw [ih h.2]
        rfl
    unfold methodCallForm
    rw [h1 args hst]
    show (true && true && decide (args.length + 0 + 0 < 30)) = true
    simpa using hn
  rw [arm_eval_Call, base_of hs]
  unfold methodCall calleeOf methodCallPos
  rw [hfew]
  simp only [hl, if_true, Bool.not_true, Bool.false_or]
  rfl
theorem pe_methG {o : Expr} {m : Str} {ta : TE} {apos pos : Pos} {e : Expr} {es : List Expr} {t : TA} {k : Nat} {f Cc : Addr} {fd : FuncData} {ps : List Str} {sp : Sp} {dvs : List V} {ds : List Value} {E : L2.St → XK} {CXt : CXT}
    (he : PE X o ta) (c : Cls X.K Cc) (hm : Meth X.K Cc m f) (F : FnOk X.prog X.w X.K X.mg X.base CXt k f fd ps sp) (hr : Room k X.A) (hb : Binds X.K fd ps ds) (hd : Vals dvs ds) (hx : ∀ σ, PassesAt CXt X σ (E σ)) (ha : PA X (e :: es) t)
    (hs : isSuper o = false) (hst : (e :: es).all (fun e => !isStar e) = true) (hn : (e :: es).length < 30) (hl : (apos.endLine == pos.line) = true) :
    PE X (.Call (.Attribute o m apos) (e :: es) [] pos) (fun σ H Q => ta σ H fun x H1 => ∃ a dx fs, x = .ref a ∧ H1 a = some (.ins Cc dx fs) ∧ fs.lookup m = none ∧ t σ H1 fun vs H2 => sp (x :: (vs ++ dvs)) H2 Q (E σ)) := by
  refine ⟨fun pins s σ H Q I h => ?_⟩
  refine PySem.W.methodCall_KW (thn (he.run pins s σ H _ I h) fun u s1 ⟨x, H1, I1, rx, a, dx, fs, ex, ea, l, q⟩ => ?_) (meth_eval hs hst hn hl)
  subst ex
  obtain rfl : u = Value.ref a := rx
  refine getmeth_ok I1 ea c hm l ?_
  have hst0 := hst
  rw [List.all_cons, Bool.and_eq_true] at hst
  have h1 : isStar e = false := by simpa using hst.1
  refine PySem.W.callWith_K (first := [.ref a]) (h₀ := X.base) I.ok.mod.kin hm.kp (thn (ha.run pos pins s1 σ H1 _ I1 q) fun us s2 ⟨vs, H2, I2, r, q2⟩ => ⟨I2.kIn, ?_⟩) (star_of h1 es X.env) (star_plain hst.2 X.env pos)
  exact run_fnG (us := .ref a :: us) (vs := .ref a :: vs) F hr hb hd (hx σ) I2 (.cons rfl r) q2
theorem pe_methG0 {o : Expr} {m : Str} {ta : TE} {apos pos : Pos} {k : Nat} {f Cc : Addr} {fd : FuncData} {ps : List Str} {sp : Sp} {dvs : List V} {ds : List Value} {E : L2.St → XK} {CXt : CXT}
    (he : PE X o ta) (c : Cls X.K Cc) (hm : Meth X.K Cc m f) (F : FnOk X.prog X.w X.K X.mg X.base CXt k f fd ps sp) (hr : Room k X.A) (hb : Binds X.K fd ps ds) (hd : Vals dvs ds) (hx : ∀ σ, PassesAt CXt X σ (E σ))
    (hs : isSuper o = false) (hl : (apos.endLine == pos.line) = true) :
    PE X (.Call (.Attribute o m apos) [] [] pos) (fun σ H Q => ta σ H fun x H1 => ∃ a dx fs, x = .ref a ∧ H1 a = some (.ins Cc dx fs) ∧ fs.lookup m = none ∧ sp (x :: dvs) H1 Q (E σ)) := by
  refine ⟨fun pins s σ H Q I h => ?_⟩
  refine PySem.W.methodCall_KW (thn (he.run pins s σ H _ I h) fun u s1 ⟨x, H1, I1, rx, a, dx, fs, ex, ea, l, q⟩ => ?_) (meth_eval hs rfl (by show 0 < 30; decide) hl)
  subst ex
  obtain rfl : u = Value.ref a := rx
  refine getmeth_ok I1 ea c hm l ?_
  exact PySem.W.callWith_K0 (first := [.ref a]) I1.kIn hm.kp (run_fnG (us := [.ref a]) (vs := [.ref a]) F hr hb hd (hx σ) I1 (.cons rfl .nil) q)
theorem pe_makeG {x : Str} {p pos : Pos} {e : Expr} {es : List Expr} {t : TA} {k : Nat} {f Cc : Addr} {fd : FuncData} {ps : List Str} {sp : Sp} {dvs : List V} {ds : List Value} {E : L2.St → XK} {CXt : CXT}
    (M : Mk X.K Cc f) (F : FnOk X.prog X.w X.K X.mg X.base CXt k f fd ps sp) (hr : Room (k + 1) X.A) (hg : Gl X x) (hdb : (x == ("__debug__" : Str)) = false) (hm : X.mg x = some (.ref Cc)) (hb : Binds X.K fd ps ds) (hd : Vals dvs ds) (hx : ∀ σ, PassesAt CXt X σ (E σ))
    (ha : PA X (e :: es) t) (hst : (e :: es).all (fun e => !isStar e) = true) : PE X (.Call (.Name x p) (e :: es) [] pos) (fun σ H Q => t σ H fun vs H1 => ∀ x dx, H1 x = none → H1 dx = none → dx ≠ x →
      sp (.ref x :: (vs ++ dvs)) (upd (upd H1 dx (.own x)) x (.ins Cc dx [])) (fun v H2 => v = .non ∧ Q (.ref x) H2) (E σ)) := by
  refine ⟨fun pins s σ H Q I h => ?_⟩
  refine wpAny_Call_Name_kw (ld_glob I hg hm ?_ hdb)
  rw [List.all_cons, Bool.and_eq_true] at hst
  have h1 : isStar e = false := by simpa using hst.1
  refine PySem.W.callWith_K (h₀ := X.base) I.ok.mod.kin M.kp (thn (ha.run pos pins s σ H _ I h) fun us s1 ⟨vs, H1, I1, r, q⟩ => ⟨I1.kIn, ?_⟩) (star_of h1 es X.env) (star_plain hst.2 X.env pos)
  exact run_makeG M F hr hb hd (hx σ) I1 r q
end
end MP

/-! MP, part 4: the check that a term is an expression of the text; rules by values. -/
namespace MP
open PySem PySem.Spec PyProof.Rows L2

def bopA : BOp → Operator
  | .add => .Add | .sub => .Sub | .mul => .Mult | .fdiv => .FloorDiv | .mod => .Mod | .pow => .Pow | .shl => .LShift | .shr => .RShift | .band => .BitAnd | .bor => .BitOr | .bxor => .BitXor
def copA : COp → CmpOp
  | .lt => .Lt | .le => .LtE | .gt => .Gt | .ge => .GtE | .eq => .Eq | .ne => .NotEq
def bltN : Blt → Str
  | .len => "len" | .abs => "abs" | .min2 => "min" | .max2 => "max" | .sum => "sum" | .maxl => "max" | .minl => "min" | .int => "int" | .list => "list" | .tuple => "tuple" | .all => "all" | .any => "any"
def isIte : Exp → Bool
  | .ite _ _ _ => true
  | .brw _ a => isIte a
  | _ => false
def isVar : Exp → Bool
  | .var _ => true
  | _ => false
def slotsT : Tgt → List Nat
  | .nm i => [i]
  | .tp is => is
def chkNs (N : List Str) (sc : Scope) (fnb : Str → Bool) : List Nat → List Expr → Bool
  | [], [] => true
  | i :: is, .Name x _ :: es => decide (N[i]? = some x) && locB sc fnb x && chkNs N sc fnb is es
  | _, _ => false
def chkT (N : List Str) (sc : Scope) (fnb : Str → Bool) : Tgt → Expr → Bool
  | .nm i, .Name x _ => decide (N[i]? = some x) && locB sc fnb x
  | .tp is, .Tuple es _ _ => chkNs N sc fnb is es
  | _, _ => false
def isTp : Expr → Bool
  | .Tuple _ _ _ => true
  | _ => false
def glN (sc : Scope) (x : Str) : Expr → Bool
  | .Name y _ => decide (y = x) && glB sc x
  | _ => false
mutual
def chkE (N : List Str) (sc : Scope) : Exp → Expr → Bool
  | .omit, _ => false
  | .var i, e => (match e with
    | .Name x _ => decide (N[i]? = some x) && visB sc x && okN x
    | _ => false)
  | .int n, e => (match e with
    | .Constant (.int m) _ _ => decide (n = m)
    | _ => false)
  | .str x, e => (match e with
    | .Constant (.str y) _ _ => decide (x = y)
    | _ => false)
  | .bl x, e => (match e with
    | .Constant (.bool y) _ _ => decide (x = y)
    | _ => false)
  | .non, e => (match e with
    | .Constant .none _ _ => true
    | _ => false)
  | .glob x _, e => glN sc x e
  | .bin op a b, e => (match e with
    | .BinOp l o r _ => decide (bopA op = o) && chkE N sc a l && chkE N sc b r
    | _ => false)
  | .neg a, e => (match e with
    | .UnaryOp .USub x _ => chkE N sc a x
    | _ => false)
  | .not a, e => (match e with
    | .UnaryOp .Not x _ => chkE N sc a x && !isIte a
    | _ => false)
  | .and es, e => (match e with
    | .BoolOp .And vs _ => chkB N sc es vs
    | _ => false)
  | .or es, e => (match e with
    | .BoolOp .Or vs _ => chkB N sc es vs
    | _ => false)
  | .ite c a b, e => (match e with
    | .IfExp t x y _ => chkE N sc c t && !isIte c && chkE N sc a x && chkE N sc b y
    | _ => false)
  | .cmp op a b, e => (match e with
    | .Compare l [o] [r] _ => decide (copA op = o) && chkE N sc a l && chkE N sc b r
    | _ => false)
  | .chain o1 o2 a b c, e => (match e with
    | .Compare l [p, q] [m, r] _ => decide (copA o1 = p) && decide (copA o2 = q) && chkE N sc a l && chkE N sc b m && chkE N sc c r && !lastMarks [p, q] [m, r]
    | _ => false)
  | .isN a, e => (match e with
    | .Compare l [.Is] [.Constant .none _ _] _ => chkE N sc a l
    | _ => false)
  | .notN a, e => (match e with
    | .Compare l [.IsNot] [.Constant .none _ _] _ => chkE N sc a l
    | _ => false)
  | .isIn neg a b, e => (match e with
    | .Compare l [o] [r] _ => decide (o = if neg then .NotIn else .In) && chkE N sc a l && chkE N sc b r && !behindInMarks o r
    | _ => false)
  | .list es, e => (match e with
    | .List xs _ => chkEs N sc es xs
    | _ => false)
  | .tuple es, e => (match e with
    | .Tuple xs _ _ => chkEs N sc es xs
    | _ => false)
  | .idx a b, e => (match e with
    | .Subscript x s _ => chkE N sc a x && chkE N sc b s && !isSlice s
    | _ => false)
  | .slc a lo hi, e => (match e with
    | .Subscript x (.Slice l u none _) _ => chkE N sc a x && (match l with
      | none => isOmit lo
      | some l => !isOmit lo && chkE N sc lo l) && (match u with
      | none => isOmit hi
      | some u => !isOmit hi && chkE N sc hi u)
    | _ => false)
  | .fld a _ _ f, e => (match e with
    | .Attribute v y _ => decide (y = f) && chkE N sc a v && !isSuper v
    | _ => false)
  | .call x _ _ _ es, e => (match e with
    | .Call f args [] _ => glN sc x f && chkEs N sc es args
    | _ => false)
  | .meth a _ m _ _ _ es, e => (match e with
    | .Call (.Attribute o y ap) args [] p => decide (y = m) && chkE N sc a o && !isSuper o && chkEs N sc es args && decide (args.length < 30) && (ap.endLine == p.line)
    | _ => false)
  | .mk x _ _ _ es, e => (match e with
    | .Call f args [] _ => glN sc x f && chkEs N sc es args && !args.isEmpty
    | _ => false)
  | .blt f es, e => (match e with
    | .Call g args [] _ => glN sc (bltN f) g && chkEs N sc es args
    | _ => false)
  | .isI a T, e => (match e with
    | .Call g [x, t] [] _ => glN sc "isinstance" g && chkE N sc a x && glN sc (Str.ofString T) t && !isStar x
    | _ => false)
  | .isX i x _, e => (match e with
    | .Call g [.Name y _, t] [] _ => glN sc "isinstance" g && decide (N[i]? = some y) && visB sc y && okN y && glN sc x t
    | _ => false)
  | .comp elt cond tg it own, e => (match e with
    | .ListComp x [⟨t, i, ifs, 0⟩] scope _ => blkC N sc scope own && chkE N (relS scope sc) elt x && (match ifs with
        | [] => isOmit cond
        | [c] => !isOmit cond && !isIte cond && chkE N (relS scope sc) cond c
        | _ => false) && chkT N (relS scope sc) (fun x => scope.names.lookup x == some .cell) tg t && chkI N sc it t i && (slotsT tg).all (own.map (·.2)).contains
    | _ => false)
  | .brw _ a, e => chkE N sc a e
def chkEs (N : List Str) (sc : Scope) : Exps → List Expr → Bool
  | .nil, [] => true
  | .cons e es, x :: xs => chkE N sc e x && !isStar x && chkEs N sc es xs
  | _, _ => false
def chkB (N : List Str) (sc : Scope) : Exps → List Expr → Bool
  | .nil, _ => false
  | .cons e es, x :: xs => chkE N sc e x && !isIte e && (match es, xs with
    | .nil, [] => true
    | es, xs => chkB N sc es xs)
  | _, _ => false
def chkI (N : List Str) (sc : Scope) : Itx → Expr → Expr → Bool
  | .seq a, _, e => chkE N sc a e && !isSet e
  | .r1 a, _, e => (match e with
    | .Call (.Name f _) [x] [] _ => decide (f = "range") && glB sc "range" && chkE N sc a x && !isStar x
    | _ => false)
  | .r2 a b, _, e => (match e with
    | .Call (.Name f _) [x, y] [] _ => decide (f = "range") && glB sc "range" && chkE N sc a x && !isStar x && chkE N sc b y && !isStar y
    | _ => false)
  | .enum a, t, e => isTp t && (match e with
    | .Call (.Name f _) [x] [] _ => decide (f = "enumerate") && glB sc "enumerate" && chkE N sc a x && !isStar x
    | _ => false)
  | .zip a b, t, e => isTp t && (match e with
    | .Call (.Name f _) [x, y] [] _ => decide (f = "zip") && glB sc "zip" && chkE N sc a x && !isStar x && chkE N sc b y && !isStar y
    | _ => false)
  | .rev a, _, e => (match e with
    | .Call (.Name f _) [x] [] _ => decide (f = "reversed") && glB sc "reversed" && chkE N sc a x && !isStar x
    | _ => false)
end
/- terms that need nothing of the frame (for an except suite) -/
mutual
def cfE : Exp → Bool
  | .var _ => true | .int _ => true | .str _ => true | .bl _ => true | .non => true
  | .not a => cfE a | .and es => cfEs es | .or es => cfEs es | .ite c a b => cfE c && cfE a && cfE b
  | .list es => cfEs es | .isX _ _ _ => true
  | _ => false
def cfEs : Exps → Bool
  | .nil => true
  | .cons e es => cfE e && cfEs es
end
mutual
def OkE (z : Cz) : Exp → Prop
  | .glob x v => ∃ v0 u, z.mg x = some u ∧ RelV v0 u ∧ ∀ H, Rep z.K z.G H v v0
  | .bin _ a b => OkE z a ∧ OkE z b
  | .neg a => OkE z a | .not a => OkE z a | .and es => OkEs z es | .or es => OkEs z es
  | .ite c a b => OkE z c ∧ OkE z a ∧ OkE z b
  | .cmp _ a b => OkE z a ∧ OkE z b
  | .chain _ _ a b c => OkE z a ∧ OkE z b ∧ OkE z c
  | .isN a => OkE z a | .notN a => OkE z a
  | .isIn _ a b => OkE z a ∧ OkE z b
  | .list es => OkEs z es | .tuple es => OkEs z es
  | .idx a b => OkE z a ∧ OkE z b
  | .slc a lo hi => OkE z a ∧ OkE z lo ∧ OkE z hi
  | .fld a c k x => (Cls z.K (z.G.cl c) ∧ NoAttr z.K (z.G.cl c) x ∧ (z.G.fld c)[k]? = some x ∧ (z.G.fld c).Nodup) ∧ OkE z a
  | .call x g fr dfl es => CallOk z x g fr dfl ∧ OkEs z es
  | .meth a c m g fr dfl es => MethOk z c m g fr dfl ∧ OkE z a ∧ OkEs z es
  | .mk x c g dfl es => MkOk z x c g dfl ∧ OkEs z es
  | .blt f es => z.mg (bltN f) = none ∧ OkEs z es
  | .isI a T => (z.mg "isinstance" = none ∧ z.mg (Str.ofString T) = none ∧ bootBuiltins (Str.ofString T) = some (.type T) ∧ Str.ofString T ≠ "__name__" ∧ (Str.ofString T == ("__debug__" : Str)) = false) ∧ OkE z a
  | .isX _ x tab => z.mg "isinstance" = none ∧ ∃ d, z.mg x = some (.ref d) ∧ ∀ p ∈ tab, PySem.W.kitOne z.K (.ref (z.G.cl p.1)) (.ref d) = some p.2
  | .comp elt cond _ it _ => OkE z elt ∧ OkE z cond ∧ OkI z it
  | .brw _ a => OkE z a
  | _ => True
def OkEs (z : Cz) : Exps → Prop
  | .nil => True
  | .cons e es => OkE z e ∧ OkEs z es
def OkI (z : Cz) : Itx → Prop
  | .seq a => OkE z a
  | .r1 a => z.mg "range" = none ∧ OkE z a
  | .r2 a b => z.mg "range" = none ∧ OkE z a ∧ OkE z b
  | .enum a => z.mg "enumerate" = none ∧ OkE z a
  | .zip a b => z.mg "zip" = none ∧ OkE z a ∧ OkE z b
  | .rev a => z.mg "reversed" = none ∧ OkE z a
end

/-! ### new lists -/
section
variable {C : Cfg} {W : Wh} {S : Addr → Prop} {σ : L2.St} {H : Hp} {Q : VK}
def EVm (fr : Bool) (C : Cfg) (W : Wh) (S : Addr → Prop) (r : R PV) (σ : L2.St) (H : Hp) (Q : VK) : Prop := if fr = true then EVf C W S r σ H Q else EV C W S r σ H Q
theorem EVf.mono {r : R PV} {H1 : Hp} (h : EVf C W S r σ H Q) (e : Same H H1) : EVf C W S r σ H1 Q := by
  cases r with
  | ok x =>
    cases x with
    | lst xs => exact fun p vs H' s np hp hz q => h p vs H' (e.trans s) (by
        cases z : H p with
        | none => rfl
        | some o =>
          have z2 := e p o z
          rw [np] at z2
          cases z2) hp hz q
    | _ => exact h
  | exc c => exact fun H' s => h H' (e.trans s)
  | stuck => exact h
theorem zF : Zc' W σ (fun r H => EVf C W S r σ H Q) := ⟨fun _ _ h => h, fun _ h => h, fun _ _ _ e h => h.mono e⟩
theorem zM {fr : Bool} : Zc' W σ (fun r H => EVm fr C W S r σ H Q) := by
  cases fr
  · exact zE
  · exact zF
/-- a new list laid -/
theorem EVm.new {fr : Bool} {xs : List PV} {vs : List V} {p : Addr} (h : EVm fr C W S (.ok (.lst xs)) σ H Q) (hS : ∀ a, S a → ∃ o, H a = some o) (np : H p = none) (hz : xs.length ≤ szL) (r : Reps C.K C.G (hid S H) xs vs) : Q (.ref p) (upd H p (.lst vs)) := by
  have sm : Same H (upd H p (.lst vs)) := fun a o q => by
    rw [upd_ne (ne_of_none q np)]
    exact q
  have nS : ¬ S p := fun z => by
    obtain ⟨o, q⟩ := hS p z
    rw [np] at q
    cases q
  cases fr with
  | false => exact h (.ref p) _ sm ⟨p, vs, rfl, hid_some.mpr ⟨nS, upd_same⟩, hz, Reps.mono (hid_same sm) _ _ r⟩
  | true => exact h p vs _ sm np upd_same hz (Reps.mono (fun a o q => by
      obtain ⟨q1, q2⟩ := hid_some.mp q
      exact hid_some.mpr ⟨fun z => z.elim q1 (fun e => ne_of_none q2 np e), sm _ _ q2⟩) _ _ r)
theorem ER.inS {ρ : Env'} (h : ER C ρ σ H) : ∀ a, C.S ρ σ a → ∃ o, H a = some o := fun a z => by
  rcases z with z | ⟨j, z⟩
  · exact h.bin a z
  · cases q : sl ρ j with
    | ow ys =>
      obtain ⟨b, ws, h1, h2, _⟩ := h.ow q
      rw [z.2] at h1
      cases h1
      exact ⟨_, h2⟩
    | oo c nf ys =>
      obtain ⟨b, dx, ws, h1, h2, _⟩ := h.oo q
      rw [z.2] at h1
      cases h1
      exact ⟨_, h2⟩
    | _ =>
      have y := z.1
      rw [q] at y
      exact y.elim
theorem EVm.ok {x : PV} {v : V} {H1 : Hp} (h : EVm false C W S (.ok x) σ H Q) (e : Same H H1) (r : Rep C.K C.G (hid S H1) x v) : Q v H1 := h v H1 e r
end

/-! ### operators by values -/
section
variable {X : Cx} {C : Cfg} {W : Wh} {S : Addr → Prop} {σ : L2.St}
theorem op_mulM : OpR X (binaryOp .Mult) (rI IntMulOk fun i j => .int (i * j)) := opI fun _ _ _ _ _ _ _ hc q => mul_int q hc
theorem mulB_ok {i j : Int} (h : mulB i j = true) : IntMulOk i j := by
  unfold mulB at h
  simp only [Bool.or_eq_true, decide_eq_true_eq] at h
  rcases h with (h | h) | h
  · exact .of_left h
  · exact .of_right h
  · exact IntMulOk.of_le (Nat.le_refl _) (Nat.le_refl _) h
theorem op_fdivM : OpR X (binaryOp .FloorDiv) (rI (fun i j => 0 < j ∧ Builtin.divisionGoesByPylong i j = false) fun i j => .int (i / j)) := opI fun i j _ _ _ _ _ hc q => by
  have h1 : (0 : Int) < j := hc.1
  exact floordiv_int (by omega) (by rw [Int.fdiv_eq_ediv_of_nonneg i (by omega)]; exact q) (.inl hc.2)
abbrev rBop (r : R2) : R2 := r
/-- what a binary operator asks is had -/
def BopOk (X : Cx) (op : BOp) : Prop := ∃ r : R2, OpR X (binaryOp (bopA op)) r ∧
  ∀ (C : Cfg) (W : Wh) (S : Addr → Prop) (σ : L2.St) (fr : Bool) (x y : PV) (v w : V) (H : Hp) (Q : VK), (∀ a, S a → ∃ o, H a = some o) → RepT C.K C.G H (hid S H) x v → RepT C.K C.G H (hid S H) y w → EVm fr C W S (bop op x y) σ H Q → r v w H Q
theorem EVm.ret {fr : Bool} {x : PV} {v : V} {H : Hp} {Q : VK} (h : EVm fr C W S (.ok x) σ H Q) (hx : toV x = some v) : Q v H := by
  cases fr with
  | false => exact h v H (Same.refl _) (flat_rep hx)
  | true => cases x <;> first | exact False.elim h | cases hx
theorem EVm.no {fr : Bool} {H : Hp} {Q : VK} {A : Prop} (h : EVm fr C W S .stuck σ H Q) : A := by
  cases fr <;> exact False.elim h
/-- the int-by-int rules -/
theorem bop_of {op : BOp} {Cc : Int → Int → Prop} {g : Int → Int → Int} (ho : OpR X (binaryOp (bopA op)) (rI Cc fun i j => .int (g i j)))
    (h : ∀ x y, (∃ i j, x = .int i ∧ y = .int j ∧ Cc i j ∧ bop op x y = .ok (.int (g i j))) ∨ bop op x y = .stuck) : BopOk X op := by
  refine ⟨_, ho, fun C W S σ fr x y v w H Q hS rx ry q => ?_⟩
  rcases h x y with ⟨i, j, rfl, rfl, hc, e⟩ | e
  · rw [e] at q
    have e1 : v = .int i := rx
    have e2 : w = .int j := ry
    exact ⟨i, j, e1, e2, hc, q.ret rfl⟩
  · rw [e] at q
    exact q.no
theorem bop_of0 {op : BOp} {g : Int → Int → Int} (ho : OpR X (binaryOp (bopA op)) (rI0 fun i j => .int (g i j)))
    (h : ∀ x y, (∃ i j, x = .int i ∧ y = .int j ∧ bop op x y = .ok (.int (g i j))) ∨ bop op x y = .stuck) : BopOk X op := by
  refine ⟨_, ho, fun C W S σ fr x y v w H Q hS rx ry q => ?_⟩
  rcases h x y with ⟨i, j, rfl, rfl, e⟩ | e
  · rw [e] at q
    have e1 : v = .int i := rx
    have e2 : w = .int j := ry
    exact ⟨i, j, e1, e2, q.ret rfl⟩
  · rw [e] at q
    exact q.no
theorem powB_ok {i j : Int} (h : powB i j = true) : CPow i j := by
  have h2 : 0 ≤ j ∧ j ≤ 1000000 ∧ i.natAbs < 2 ^ 64 := of_decide_eq_true (show decide (0 ≤ j ∧ j ≤ 1000000 ∧ i.natAbs < 2 ^ 64) = true from h)
  exact h2
theorem divB_ok {i j : Int} (h : divB i j = true) : 0 < j ∧ Builtin.divisionGoesByPylong i j = false := by
  unfold divB at h
  rw [Bool.and_eq_true] at h
  exact ⟨of_decide_eq_true h.1, by simpa using h.2⟩
theorem bopOk : ∀ op, BopOk X op
  | .sub => bop_of0 op_sub fun x y => by
    cases x <;> cases y <;> first | exact .inl ⟨_, _, rfl, rfl, rfl⟩ | exact .inr rfl
  | .band => bop_of0 op_and fun x y => by
    cases x <;> cases y <;> first | exact .inl ⟨_, _, rfl, rfl, rfl⟩ | exact .inr rfl
  | .bor => bop_of0 op_or fun x y => by
    cases x <;> cases y <;> first | exact .inl ⟨_, _, rfl, rfl, rfl⟩ | exact .inr rfl
  | .bxor => bop_of0 op_xor fun x y => by
    cases x <;> cases y <;> first | exact .inl ⟨_, _, rfl, rfl, rfl⟩ | exact .inr rfl
  | .fdiv => bop_of op_fdivM fun x y => by
    cases x <;> cases y <;> first | exact .inr rfl | (rename_i i j; by_cases h : divB i j = true; exact .inl ⟨_, _, rfl, rfl, divB_ok h, if_pos h⟩; exact .inr (if_neg h))
  | .mod => bop_of op_mod fun x y => by
    cases x <;> cases y <;> first | exact .inr rfl | (rename_i i j; by_cases h : 0 < j; exact .inl ⟨_, _, rfl, rfl, h, if_pos h⟩; exact .inr (if_neg h))
  | .pow => bop_of op_pow fun x y => by
    cases x <;> cases y <;> first | exact .inr rfl | (rename_i i j; by_cases h : powB i j = true; exact .inl ⟨_, _, rfl, rfl, powB_ok h, if_pos h⟩; exact .inr (if_neg h))
  | .shl => bop_of op_shl fun x y => by
    cases x <;> cases y <;> first | exact .inr rfl | (rename_i i j; by_cases h : powB i j = true; exact .inl ⟨_, _, rfl, rfl, powB_ok h, if_pos h⟩; exact .inr (if_neg h))
  | .shr => bop_of op_shr fun x y => by
    cases x <;> cases y <;> first | exact .inr rfl | (rename_i i j; by_cases h : 0 ≤ j; exact .inl ⟨_, _, rfl, rfl, h, if_pos h⟩; exact .inr (if_neg h))
  | .add => by
    refine ⟨_, OpR.or op_add op_cat, fun C W S σ fr x y v w H Q hS rx ry q => ?_⟩
    cases x with
    | int i =>
      cases y with
      | int j =>
        have e1 : v = .int i := rx
        have e2 : w = .int j := ry
        exact .inl ⟨i, j, e1, e2, q.ret rfl⟩
      | _ => exact EVm.no q
    | lst xs =>
      cases y with
      | lst ys =>
        obtain ⟨a, vs, h1, h2, h3, h4⟩ := rx
        obtain ⟨b, ws, k1, k2, k3, k4⟩ := ry
        by_cases hl : xs.length + ys.length ≤ szL
        · have e : bop .add (.lst xs) (.lst ys) = .ok (.lst (xs ++ ys)) := if_pos hl
          rw [e] at q
          refine .inr ⟨a, b, vs, ws, h1, k1, h2, k2, ?_, fun p np => q.new hS np (by rw [List.length_append]; exact hl) (h4.append k4)⟩
          rw [h4.len, k4.len, szL_eq]
          exact hl
        · have e : bop .add (.lst xs) (.lst ys) = .stuck := if_neg hl
          rw [e] at q
          exact q.no
      | _ => exact EVm.no q
    | _ => cases y <;> exact EVm.no q
  | .mul => by
    refine ⟨_, OpR.or op_mulM op_rep, fun C W S σ fr x y v w H Q hS rx ry q => ?_⟩
    cases x with
    | int i =>
      cases y with
      | int j =>
        have e1 : v = .int i := rx
        have e2 : w = .int j := ry
        by_cases h : mulB i j = true
        · have e : bop .mul (.int i) (.int j) = .ok (.int (i * j)) := if_pos h
          rw [e] at q
          exact .inl ⟨i, j, e1, e2, mulB_ok h, q.ret rfl⟩
        · have e : bop .mul (.int i) (.int j) = .stuck := if_neg h
          rw [e] at q
          exact q.no
      | _ => exact EVm.no q
    | lst xs =>
      cases y with
      | int k =>
        obtain ⟨a, vs, h1, h2, h3, h4⟩ := rx
        have e2 : w = .int k := ry
        by_cases h : i62 k = true ∧ xs.length * k.toNat ≤ szL
        · have e : bop .mul (.lst xs) (.int k) = .ok (.lst (List.replicate k.toNat xs).flatten) := if_pos h
          rw [e] at q
          have hk := of_decide_eq_true (show decide (-4611686018427387904 ≤ k ∧ k < 4611686018427387904) = true from h.1)
          refine .inr ⟨a, k, vs, h1, e2, h2, by omega, by omega, by rw [h4.len, szL_eq]; exact h.2, fun p np => q.new hS np ?_ (h4.rep _)⟩
          simpa [Nat.mul_comm] using h.2
        · have e : bop .mul (.lst xs) (.int k) = .stuck := if_neg h
          rw [e] at q
          exact q.no
      | _ => exact EVm.no q
    | _ => cases y <;> exact EVm.no q

/-! ### comparisons by values -/
def CopOk (X : Cx) (op : COp) : Prop := ∃ r : R2, OpR X (compareOp (copA op)) r ∧
  ∀ (C : Cfg) (W : Wh) (S : Addr → Prop) (σ : L2.St) (x y : PV) (v w : V) (H : Hp) (Q : VK), RepT C.K C.G H (hid S H) x v → RepT C.K C.G H (hid S H) y w → C.K = X.K → EV C W S (cop op x y) σ H Q → r v w H Q
theorem EV.ret {x : PV} {v : V} {H : Hp} {Q : VK} (h : EV C W S (.ok x) σ H Q) (hx : toV x = some v) : Q v H := h v H (Same.refl _) (flat_rep hx)
theorem cop_of0 {op : COp} {g : Int → Int → Bool} (ho : OpR X (compareOp (copA op)) (rI0 fun i j => .bl (g i j)))
    (h : ∀ x y, (∃ i j, x = .int i ∧ y = .int j ∧ cop op x y = .ok (.bl (g i j))) ∨ cop op x y = .stuck) : CopOk X op := by
  refine ⟨_, ho, fun C W S σ x y v w H Q rx ry eK q => ?_⟩
  rcases h x y with ⟨i, j, rfl, rfl, e⟩ | e
  · rw [e] at q
    have e1 : v = .int i := rx
    have e2 : w = .int j := ry
    exact ⟨i, j, e1, e2, q.ret rfl⟩
  · rw [e] at q
    exact False.elim q
/-- what eqP says is what the rules say -/
theorem eq_split {K : PySem.W.Frag} {G : Gx} {H Hd : Hp} {x y : PV} {v w : V} {b : Bool} (h : eqP x y = some b) (rx : RepT K G H Hd x v) (ry : RepT K G H Hd y w) (sm : Same Hd H) :
    (scal v w = true ∧ decide (v = w) = b) ∨ ∃ d e, Dp K H v d ∧ Dp K H w e ∧ SeqAt.shaped d = true ∧ SeqAt.shaped e = true ∧ PyData.eqv d e = b := by
  have gen : eqG x y = some b → ∃ d e, Dp K H v d ∧ Dp K H w e ∧ SeqAt.shaped d = true ∧ SeqAt.shaped e = true ∧ PyData.eqv d e = b := fun h => by
    unfold eqG at h
    split at h
    · rename_i d e h1 h2
      split at h
      · rename_i h3
        cases h
        exact ⟨d, e, rep_data x v d h1 (rx.rep sm), rep_data y w e h2 (ry.rep sm), h3.1, h3.2, rfl⟩
      · cases h
    · cases h
  cases x with
  | int i =>
    cases y with
    | int j =>
      have e1 : v = .int i := rx
      have e2 : w = .int j := ry
      subst e1 e2
      cases h
      exact .inl ⟨rfl, by simp⟩
    | _ => exact .inr (gen h)
  | str i =>
    cases y with
    | str j =>
      have e1 : v = .str i := rx
      have e2 : w = .str j := ry
      subst e1 e2
      cases h
      exact .inl ⟨rfl, by simp⟩
    | _ => exact .inr (gen h)
  | bl i =>
    cases y with
    | bl j =>
      have e1 : v = .bl i := rx
      have e2 : w = .bl j := ry
      subst e1 e2
      cases h
      exact .inl ⟨rfl, by simp⟩
    | _ => exact .inr (gen h)
  | _ => exact .inr (gen h)
theorem copOk (hu : X.A.units + 64 < cLine) : ∀ op, CopOk X op
  | .lt => cop_of0 op_lt fun x y => by
    cases x <;> cases y <;> first | exact .inl ⟨_, _, rfl, rfl, rfl⟩ | exact .inr rfl
  | .le => cop_of0 op_le fun x y => by
    cases x <;> cases y <;> first | exact .inl ⟨_, _, rfl, rfl, rfl⟩ | exact .inr rfl
  | .gt => cop_of0 op_gt fun x y => by
    cases x <;> cases y <;> first | exact .inl ⟨_, _, rfl, rfl, rfl⟩ | exact .inr rfl
  | .ge => cop_of0 op_ge fun x y => by
    cases x <;> cases y <;> first | exact .inl ⟨_, _, rfl, rfl, rfl⟩ | exact .inr rfl
  | .eq => by
    refine ⟨_, OpR.or op_eq (op_eqD hu), fun C W S σ x y v w H Q rx ry eK q => ?_⟩
    have e : cop .eq x y = (match eqP x y with
      | some b => .ok (.bl b)
      | none => .stuck) := by cases x <;> cases y <;> rfl
    rw [e] at q
    cases h : eqP x y with
    | none =>
      rw [h] at q
      exact False.elim q
    | some b =>
      rw [h] at q
      have q' : Q (.bl b) H := EV.ret (C := C) (W := W) (S := S) (σ := σ) q rfl
      rcases eq_split h rx ry hid_le with ⟨h1, h2⟩ | ⟨d, e, h1, h2, h3, h4, h5⟩
      · exact .inl ⟨h1, by rw [h2]; exact q'⟩
      · exact .inr ⟨d, e, by rw [← eK]; exact h1, by rw [← eK]; exact h2, h3, h4, by rw [h5]; exact q'⟩
  | .ne => by
    refine ⟨_, OpR.or op_ne (op_neD hu), fun C W S σ x y v w H Q rx ry eK q => ?_⟩
    have e : cop .ne x y = (match eqP x y with
      | some b => .ok (.bl (!b))
      | none => .stuck) := by cases x <;> cases y <;> rfl
    rw [e] at q
    cases h : eqP x y with
    | none =>
      rw [h] at q
      exact False.elim q
    | some b =>
      rw [h] at q
      have q' : Q (.bl (!b)) H := EV.ret (C := C) (W := W) (S := S) (σ := σ) q rfl
      rcases eq_split h rx ry hid_le with ⟨h1, h2⟩ | ⟨d, e, h1, h2, h3, h4, h5⟩
      · exact .inl ⟨h1, by rw [h2]; exact q'⟩
      · exact .inr ⟨d, e, by rw [← eK]; exact h1, by rw [← eK]; exact h2, h3, h4, by rw [h5]; exact q'⟩
theorem cop_eq (x y : PV) : cop .eq x y = (match eqP x y with
      | some b => .ok (.bl b)
      | none => .stuck) := by cases x <;> cases y <;> rfl
theorem cop_ne (x y : PV) : cop .ne x y = (match eqP x y with
      | some b => .ok (.bl (!b))
      | none => .stuck) := by cases x <;> cases y <;> rfl
theorem cop_bl {op : COp} {x y u : PV} (h : cop op x y = .ok u) : ∃ b, u = .bl b := by
  cases op with
  | eq =>
    rw [cop_eq] at h
    split at h
    · cases h
      exact ⟨_, rfl⟩
    · cases h
  | ne =>
    rw [cop_ne] at h
    split at h
    · cases h
      exact ⟨_, rfl⟩
    · cases h
  | _ => cases x <;> cases y <;> first | (cases h; exact ⟨_, rfl⟩) | (cases h; done)
/-- in, not in -/
theorem in_ok {K : PySem.W.Frag} {G : Gx} {H Hd : Hp} {neg : Bool} {x y u : PV} {v w : V} {Q : VK} (rx : Rep K G Hd x v) (ry : RepT K G H Hd y w) (sm : Same Hd H) (h : inP neg x y = .ok u) (q : ∀ b, u = .bl b → Q (.bl b) H) : rIn K neg v w H Q := by
  unfold inP at h
  split at h
  · rename_i v0 vs h1 h2
    cases h
    have e1 := rep_flat h1 rx
    subst e1
    have fl : flatV v = true := by cases x <;> first | (cases h1; rfl) | cases h1
    have fls : ∀ {xs : List PV} {ws : List V}, toVs xs = some ws → ws.all flatV = true := by
      intro xs
      induction xs with
      | nil => intro ws h; cases h; rfl
      | cons a r ih =>
        intro ws h
        unfold toVs at h
        split at h
        · rename_i p q' hp hq
          cases h
          have f1 : flatV p = true := by cases a <;> first | (cases hp; rfl) | cases hp
          rw [List.all_cons, f1, ih hq]
          rfl
        · cases h
    cases y with
    | lst xs =>
      obtain ⟨a, ws, e, k2, _, k3⟩ := ry
      have e3 := reps_flat (show toVs xs = some vs from h2) k3
      subst e3
      exact ⟨a, ws, e, .inl (SqL.of k2), fl, fls (show toVs xs = some ws from h2), q _ rfl⟩
    | lsk xs =>
      obtain ⟨a, ws, e, k2, _, k3⟩ := ry
      have e3 := reps_flat (show toVs xs = some vs from h2) k3
      subst e3
      exact ⟨a, ws, e, .inl (sm.seq k2), fl, fls (show toVs xs = some ws from h2), q _ rfl⟩
    | tup xs =>
      obtain ⟨a, ws, e, k2, _, k3⟩ := ry
      have e3 := reps_flat (show toVs xs = some vs from h2) k3
      subst e3
      exact ⟨a, ws, e, .inr (Same.tup sm k2), fl, fls (show toVs xs = some ws from h2), q _ rfl⟩
    | _ => cases h2
  · cases h
theorem op_inP (neg : Bool) : OpR X (compareOp (if neg then .NotIn else .In)) (rIn X.K neg) := by
  cases neg
  · exact op_in_seq
  · exact op_notIn_seq
theorem tru_ok' {K : PySem.W.Frag} {G : Gx} {H : Hp} {x : PV} {v : V} {b : Bool} (r : Rep K G H x v) (h : truP x = some b) : TruV K v H b := by
  cases x with
  | non => cases h; have e : v = .non := r; subst e; exact rfl
  | bl c => cases h; have e : v = .bl b := r; subst e; exact rfl
  | int c => cases h; have e : v = .int c := r; subst e; exact rfl
  | lst xs =>
    cases h
    obtain ⟨a, vs, rfl, h2, _, h4⟩ := r
    refine .inl ⟨vs, SqL.of h2, ?_⟩
    have hl := h4.len
    cases xs <;> cases vs <;> first | rfl | (simp at hl)
  | lsk xs =>
    cases h
    obtain ⟨a, vs, rfl, h2, _, h4⟩ := r
    refine .inl ⟨vs, h2, ?_⟩
    have hl := h4.len
    cases xs <;> cases vs <;> first | rfl | (simp at hl)
  | tup xs =>
    cases h
    obtain ⟨a, vs, rfl, h2, _, h4⟩ := r
    refine .inr (.inl ⟨vs, h2, ?_⟩)
    have hl := h4.len
    cases xs <;> cases vs <;> first | rfl | (simp at hl)
  | _ => cases h
end
end MP

/-! MP, part 5: built-ins, what a loop walks. -/
namespace MP
open PySem PySem.Spec PyProof.Rows L2

theorem maxL_go : ∀ (xs : List Int) (x : Int), (xs.foldl (fun a b => if a < b then b else a) x = x ∨ xs.foldl (fun a b => if a < b then b else a) x ∈ xs) ∧ x ≤ xs.foldl (fun a b => if a < b then b else a) x ∧ ∀ y ∈ xs, y ≤ xs.foldl (fun a b => if a < b then b else a) x
  | [], x => ⟨.inl rfl, Int.le_refl _, fun y h => by cases h⟩
  | z :: xs, x => by
    obtain ⟨h1, h2, h3⟩ := maxL_go xs (if x < z then z else x)
    rw [List.foldl_cons]
    by_cases hz : x < z
    · rw [if_pos hz] at h1 h2 h3 ⊢
      refine ⟨.inr ?_, by omega, fun y hy => ?_⟩
      · rcases h1 with h1 | h1
        · rw [h1]
          exact List.mem_cons_self
        · exact List.mem_cons_of_mem _ h1
      · rcases List.mem_cons.mp hy with e | hy
        · rw [e]
          exact h2
        · exact h3 y hy
    · rw [if_neg hz] at h1 h2 h3 ⊢
      refine ⟨h1.imp id (List.mem_cons_of_mem _), h2, fun y hy => ?_⟩
      rcases List.mem_cons.mp hy with e | hy
      · rw [e]
        omega
      · exact h3 y hy
theorem minL_go : ∀ (xs : List Int) (x : Int), (xs.foldl (fun a b => if b < a then b else a) x = x ∨ xs.foldl (fun a b => if b < a then b else a) x ∈ xs) ∧ xs.foldl (fun a b => if b < a then b else a) x ≤ x ∧ ∀ y ∈ xs, xs.foldl (fun a b => if b < a then b else a) x ≤ y
  | [], x => ⟨.inl rfl, Int.le_refl _, fun y h => by cases h⟩
  | z :: xs, x => by
    obtain ⟨h1, h2, h3⟩ := minL_go xs (if z < x then z else x)
    rw [List.foldl_cons]
    by_cases hz : z < x
    · rw [if_pos hz] at h1 h2 h3 ⊢
      refine ⟨.inr ?_, by omega, fun y hy => ?_⟩
      · rcases h1 with h1 | h1
        · rw [h1]
          exact List.mem_cons_self
        · exact List.mem_cons_of_mem _ h1
      · rcases List.mem_cons.mp hy with e | hy
        · rw [e]
          exact h2
        · exact h3 y hy
    · rw [if_neg hz] at h1 h2 h3 ⊢
      refine ⟨h1.imp id (List.mem_cons_of_mem _), h2, fun y hy => ?_⟩
      rcases List.mem_cons.mp hy with e | hy
      · rw [e]
        omega
      · exact h3 y hy
theorem maxL_spec {ns : List Int} {m : Int} (h : maxL ns = some m) : m ∈ ns ∧ ∀ y ∈ ns, y ≤ m := by
  cases ns with
  | nil => cases h
  | cons x xs =>
    have e : xs.foldl (fun a b => if a < b then b else a) x = m := Option.some.inj h
    obtain ⟨h1, h2, h3⟩ := maxL_go xs x
    rw [e] at h1 h2 h3
    refine ⟨?_, fun y hy => ?_⟩
    · rcases h1 with h1 | h1
      · rw [h1]
        exact List.mem_cons_self
      · exact List.mem_cons_of_mem _ h1
    · rcases List.mem_cons.mp hy with e | hy
      · rw [e]
        exact h2
      · exact h3 y hy
theorem minL_spec {ns : List Int} {m : Int} (h : minL ns = some m) : m ∈ ns ∧ ∀ y ∈ ns, m ≤ y := by
  cases ns with
  | nil => cases h
  | cons x xs =>
    have e : xs.foldl (fun a b => if b < a then b else a) x = m := Option.some.inj h
    obtain ⟨h1, h2, h3⟩ := minL_go xs x
    rw [e] at h1 h2 h3
    refine ⟨?_, fun y hy => ?_⟩
    · rcases h1 with h1 | h1
      · rw [h1]
        exact List.mem_cons_self
      · exact List.mem_cons_of_mem _ h1
    · rcases List.mem_cons.mp hy with e | hy
      · rw [e]
        exact h2
      · exact h3 y hy

/-! ### built-ins -/
section
variable {X : Cx}
abbrev BltE (X : Cx) (f : Blt) (r : List V → Hp → VK → Prop) : Prop := ∀ (p pos : Pos) (e : Expr) (es : List Expr) (t : TA), X.mg (bltN f) = none → Gl X (bltN f) → PA X (e :: es) t → (e :: es).all (fun e => !isStar e) = true → PE X (.Call (.Name (bltN f) p) (e :: es) [] pos) (tCB r t)
abbrev BltV (X : Cx) (f : Blt) (r : List V → Hp → VK → Prop) : Prop := ∀ (C : Cfg) (W : Wh) (S : Addr → Prop) (σ : L2.St) (fr : Bool) (xs : List PV) (vs : List V) (H : Hp) (Q : VK), C.K = X.K → (∀ a, S a → ∃ o, H a = some o) → RepTs C.K C.G H (hid S H) xs vs → EVm fr C W S (bltP f xs) σ H Q → r vs H Q
theorem bltB {f : Blt} {id : String} {r : List V → Hp → VK → Prop} (hc : CallR X (.builtin id) r) (hv : bootBuiltins (bltN f) = some (.builtin id)) (hn : bltN f ≠ "__name__") (hd : (bltN f == ("__debug__" : Str)) = false) : BltE X f r := fun p pos e es t hm hg ha hst => by
  have hst0 := hst
  rw [List.all_cons, Bool.and_eq_true] at hst
  have h1 : isStar e = false := by simpa using hst.1
  exact pe_callB hc hg hm hv ha hn hd (star_of h1 es X.env) (star_plain hst.2 X.env pos)
theorem bltT {f : Blt} {id : String} {r : List V → Hp → VK → Prop} (hc : CallR X (.type id) r) (hv : bootBuiltins (bltN f) = some (.type id)) (hn : bltN f ≠ "__name__") (hd : (bltN f == ("__debug__" : Str)) = false) : BltE X f r := fun p pos e es t hm hg ha hst => by
  have hst0 := hst
  rw [List.all_cons, Bool.and_eq_true] at hst
  have h1 : isStar e = false := by simpa using hst.1
  exact pe_callTy hc hg hm hv ha hn hd (star_of h1 es X.env) (star_plain hst.2 X.env pos)
theorem rt1 {K : PySem.W.Frag} {G : Gx} {H Hd : Hp} {x : PV} {vs : List V} (h : RepTs K G H Hd [x] vs) : ∃ v, vs = [v] ∧ RepT K G H Hd x v := by
  obtain ⟨v, r, rfl, h1, h2⟩ := h
  have e : r = [] := h2
  subst e
  exact ⟨v, rfl, h1⟩
theorem rt2 {K : PySem.W.Frag} {G : Gx} {H Hd : Hp} {x y : PV} {vs : List V} (h : RepTs K G H Hd [x, y] vs) : ∃ v w, vs = [v, w] ∧ RepT K G H Hd x v ∧ RepT K G H Hd y w := by
  obtain ⟨v, r, rfl, h1, h2⟩ := h
  obtain ⟨w, e, h3⟩ := rt1 h2
  subst e
  exact ⟨v, w, rfl, h1, h3⟩
/-- the items of what stands at an address -/
theorem items_ok {K : PySem.W.Frag} {G : Gx} {H Hd : Hp} {x : PV} {xs : List PV} {v : V} (r : RepT K G H Hd x v) (sm : Same Hd H) (h : items? x = some xs) : ∃ a vs, v = .ref a ∧ (SqL K H a vs ∨ SqT K H a vs) ∧ xs.length ≤ szL ∧ Reps K G Hd xs vs := by
  cases x with
  | lst ys =>
    cases h
    obtain ⟨a, vs, h1, h2, h3, h4⟩ := r
    exact ⟨a, vs, h1, .inl (SqL.of h2), h3, h4⟩
  | lsk ys =>
    cases h
    obtain ⟨a, vs, h1, h2, h3, h4⟩ := r
    exact ⟨a, vs, h1, .inl (sm.seq h2), h3, h4⟩
  | tup ys =>
    cases h
    obtain ⟨a, vs, h1, h2, h3, h4⟩ := r
    exact ⟨a, vs, h1, .inr (Same.tup sm h2), h3, h4⟩
  | _ => cases h
theorem lits_ok {K : PySem.W.Frag} {G : Gx} {H Hd : Hp} {x : PV} {xs : List PV} {v : V} (r : RepT K G H Hd x v) (sm : Same Hd H) (h : lits? x = some xs) : ∃ a vs, v = .ref a ∧ SqL K H a vs ∧ xs.length ≤ szL ∧ Reps K G Hd xs vs := by
  cases x with
  | lst ys =>
    cases h
    obtain ⟨a, vs, h1, h2, h3, h4⟩ := r
    exact ⟨a, vs, h1, SqL.of h2, h3, h4⟩
  | lsk ys =>
    cases h
    obtain ⟨a, vs, h1, h2, h3, h4⟩ := r
    exact ⟨a, vs, h1, sm.seq h2, h3, h4⟩
  | _ => cases h
theorem bnd_some {α β : Type} {o : Option α} {f : α → Option β} {b : β} (h : o.bind f = some b) : ∃ a, o = some a ∧ f a = some b := by
  cases o with
  | none => cases h
  | some a => exact ⟨a, rfl, h⟩
theorem two_args {f : Blt} {xs : List PV} {a b : PV} {r : List PV} (e : xs = a :: b :: r) (h1 : f ≠ .min2) (h2 : f ≠ .max2) : bltP f xs = .stuck := by
  subst e
  cases f <;> first | rfl | exact absurd rfl h1 | exact absurd rfl h2 | (cases a <;> rfl)
theorem bltOk (hc : X.calm = true) : ∀ f : Blt, ∃ r, BltE X f r ∧ BltV X f r
  | .len => by
    refine ⟨_, bltB (f := .len) call_len_seq PySem.boot_len (by decide) (by decide), fun C W S σ fr xs vs H Q eK hS rx q => ?_⟩
    match xs, rx, q with
    | [], _, q => exact EVm.no q
    | x :: y :: z, _, q => exact EVm.no q
    | [x], rx, q =>
      obtain ⟨v, rfl, rv⟩ := rt1 rx
      cases h : items? x with
      | none =>
        have e : bltP .len [x] = .stuck := by show (match items? x with | some xs => R.ok (PV.int xs.length) | none => .stuck) = _; rw [h]
        rw [e] at q
        exact q.no
      | some ys =>
        have e : bltP .len [x] = .ok (.int ys.length) := by show (match items? x with | some xs => R.ok (PV.int xs.length) | none => .stuck) = _; rw [h]
        rw [e] at q
        obtain ⟨a, ws, rfl, h2, _, h4⟩ := items_ok rv hid_le h
        refine ⟨a, ws, rfl, by rw [← eK]; exact h2, ?_⟩
        rw [h4.len]
        exact q.ret rfl
  | .abs => by
    refine ⟨_, bltB (f := .abs) call_abs PyProof.Rows.boot_abs (by decide) (by decide), fun C W S σ fr xs vs H Q eK hS rx q => ?_⟩
    match xs, rx, q with
    | [], _, q => exact EVm.no q
    | x :: y :: z, _, q =>
      cases x <;> exact EVm.no q
    | [x], rx, q =>
      obtain ⟨v, rfl, rv⟩ := rt1 rx
      cases x with
      | int i =>
        have e1 : v = .int i := rv
        subst e1
        exact ⟨i, rfl, EVm.ret (x := .int (if i < 0 then -i else i)) q rfl⟩
      | _ => exact EVm.no q
  | .min2 => by
    refine ⟨_, bltB (f := .min2) (call_min2 hc) PyProof.Rows.boot_min (by decide) (by decide), fun C W S σ fr xs vs H Q eK hS rx q => ?_⟩
    match xs, rx, q with
    | [], _, q => exact EVm.no q
    | [x], rx, q => cases x <;> exact EVm.no q
    | x :: y :: z :: r, _, q => cases x <;> cases y <;> exact EVm.no q
    | [x, y], rx, q =>
      obtain ⟨v, w, rfl, rv, ry⟩ := rt2 rx
      cases x with
      | int i =>
        cases y with
        | int j =>
          have e1 : v = .int i := rv
          have e2 : w = .int j := ry
          subst e1 e2
          exact ⟨i, j, rfl, EVm.ret (x := .int (if j < i then j else i)) q rfl⟩
        | _ => exact EVm.no q
      | _ => cases y <;> exact EVm.no q
  | .max2 => by
    refine ⟨_, bltB (f := .max2) (call_max2 hc) PyProof.Rows.boot_max (by decide) (by decide), fun C W S σ fr xs vs H Q eK hS rx q => ?_⟩
    match xs, rx, q with
    | [], _, q => exact EVm.no q
    | [x], rx, q => cases x <;> exact EVm.no q
    | x :: y :: z :: r, _, q => cases x <;> cases y <;> exact EVm.no q
    | [x, y], rx, q =>
      obtain ⟨v, w, rfl, rv, ry⟩ := rt2 rx
      cases x with
      | int i =>
        cases y with
        | int j =>
          have e1 : v = .int i := rv
          have e2 : w = .int j := ry
          subst e1 e2
          exact ⟨i, j, rfl, EVm.ret (x := .int (if j > i then j else i)) q rfl⟩
        | _ => exact EVm.no q
      | _ => cases y <;> exact EVm.no q
  | .sum => by
    refine ⟨_, bltB (f := .sum) (cr_sum hc) PyProof.Rows.boot_sum (by decide) (by decide), fun C W S σ fr xs vs H Q eK hS rx q => ?_⟩
    match xs, rx, q with
    | [], _, q => exact EVm.no q
    | x :: y :: z, _, q =>
      cases x <;> exact EVm.no q
    | [x], rx, q =>
      obtain ⟨v, rfl, rv⟩ := rt1 rx
      cases h : (lits? x).bind intsOf with
      | none =>
        have e : bltP .sum [x] = .stuck := by show (match (lits? x).bind intsOf with | some ns => R.ok (PV.int ns.sum) | none => .stuck) = _; rw [h]
        rw [e] at q
        exact q.no
      | some ns =>
        have e : bltP .sum [x] = .ok (.int ns.sum) := by show (match (lits? x).bind intsOf with | some ns => R.ok (PV.int ns.sum) | none => .stuck) = _; rw [h]
        rw [e] at q
        obtain ⟨ys, h1, h2⟩ := bnd_some h
        obtain ⟨a, ws, rfl, h3, _, h4⟩ := lits_ok rv hid_le h1
        exact ⟨a, ns, rfl, by rw [← eK, ← reps_ints h2 h4]; exact h3, q.ret rfl⟩
  | .maxl => by
    refine ⟨_, bltB (f := .maxl) (cr_max hc) PyProof.Rows.boot_max (by decide) (by decide), fun C W S σ fr xs vs H Q eK hS rx q => ?_⟩
    match xs, rx, q with
    | [], _, q => exact EVm.no q
    | x :: y :: z, _, q =>
      cases x <;> exact EVm.no q
    | [x], rx, q =>
      obtain ⟨v, rfl, rv⟩ := rt1 rx
      cases h : ((lits? x).bind intsOf).bind maxL with
      | none =>
        have e : bltP .maxl [x] = .stuck := by show (match ((lits? x).bind intsOf).bind maxL with | some m => R.ok (PV.int m) | none => .stuck) = _; rw [h]
        rw [e] at q
        exact q.no
      | some m =>
        have e : bltP .maxl [x] = .ok (.int m) := by show (match ((lits? x).bind intsOf).bind maxL with | some m => R.ok (PV.int m) | none => .stuck) = _; rw [h]
        rw [e] at q
        obtain ⟨ns, h0, hm⟩ := bnd_some h
        obtain ⟨ys, h1, h2⟩ := bnd_some h0
        obtain ⟨a, ws, rfl, h3, _, h4⟩ := lits_ok rv hid_le h1
        obtain ⟨m1, m2⟩ := maxL_spec hm
        refine ⟨a, ns, rfl, by rw [← eK, ← reps_ints h2 h4]; exact h3, List.length_pos_of_mem m1, fun k k1 k2 => ?_⟩
        have e3 : k = m := Int.le_antisymm (m2 k k1) (k2 m m1)
        rw [e3]
        exact q.ret rfl
  | .minl => by
    refine ⟨_, bltB (f := .minl) (cr_min hc) PyProof.Rows.boot_min (by decide) (by decide), fun C W S σ fr xs vs H Q eK hS rx q => ?_⟩
    match xs, rx, q with
    | [], _, q => exact EVm.no q
    | x :: y :: z, _, q =>
      cases x <;> exact EVm.no q
    | [x], rx, q =>
      obtain ⟨v, rfl, rv⟩ := rt1 rx
      cases h : ((lits? x).bind intsOf).bind minL with
      | none =>
        have e : bltP .minl [x] = .stuck := by show (match ((lits? x).bind intsOf).bind minL with | some m => R.ok (PV.int m) | none => .stuck) = _; rw [h]
        rw [e] at q
        exact q.no
      | some m =>
        have e : bltP .minl [x] = .ok (.int m) := by show (match ((lits? x).bind intsOf).bind minL with | some m => R.ok (PV.int m) | none => .stuck) = _; rw [h]
        rw [e] at q
        obtain ⟨ns, h0, hm⟩ := bnd_some h
        obtain ⟨ys, h1, h2⟩ := bnd_some h0
        obtain ⟨a, ws, rfl, h3, _, h4⟩ := lits_ok rv hid_le h1
        obtain ⟨m1, m2⟩ := minL_spec hm
        refine ⟨a, ns, rfl, by rw [← eK, ← reps_ints h2 h4]; exact h3, List.length_pos_of_mem m1, fun k k1 k2 => ?_⟩
        have e3 : k = m := Int.le_antisymm (k2 m m1) (m2 k k1)
        rw [e3]
        exact q.ret rfl
  | .int => by
    refine ⟨_, bltT (f := .int) call_int1 (by decide +kernel) (by decide) (by decide), fun C W S σ fr xs vs H Q eK hS rx q => ?_⟩
    match xs, rx, q with
    | [], _, q => exact EVm.no q
    | x :: y :: z, _, q =>
      cases x <;> exact EVm.no q
    | [x], rx, q =>
      obtain ⟨v, rfl, rv⟩ := rt1 rx
      cases x with
      | int i =>
        have e1 : v = .int i := rv
        subst e1
        exact .inl ⟨i, rfl, EVm.ret (x := .int i) q rfl⟩
      | bl b =>
        have e1 : v = .bl b := rv
        subst e1
        exact .inr ⟨b, rfl, EVm.ret (x := .int (if b then 1 else 0)) q rfl⟩
      | _ => exact EVm.no q
  | .list => by
    refine ⟨_, bltT (f := .list) call_list_of (by decide +kernel) (by decide) (by decide), fun C W S σ fr xs vs H Q eK hS rx q => ?_⟩
    match xs, rx, q with
    | [], _, q => exact EVm.no q
    | x :: y :: z, _, q =>
      cases x <;> exact EVm.no q
    | [x], rx, q =>
      obtain ⟨v, rfl, rv⟩ := rt1 rx
      cases h : items? x with
      | none =>
        have e : bltP .list [x] = .stuck := by show (match items? x with | some xs => R.ok (PV.lst xs) | none => .stuck) = _; rw [h]
        rw [e] at q
        exact q.no
      | some ys =>
        have e : bltP .list [x] = .ok (.lst ys) := by show (match items? x with | some xs => R.ok (PV.lst xs) | none => .stuck) = _; rw [h]
        rw [e] at q
        obtain ⟨a, ws, rfl, h2, h3, h4⟩ := items_ok rv hid_le h
        exact ⟨a, ws, rfl, by rw [← eK]; exact h2, fun l nl => q.new hS nl h3 h4⟩
  | .tuple => by
    refine ⟨_, bltT (f := .tuple) call_tuple_of (by decide +kernel) (by decide) (by decide), fun C W S σ fr xs vs H Q eK hS rx q => ?_⟩
    match xs, rx, q with
    | [], _, q => exact EVm.no q
    | x :: y :: z, _, q =>
      cases x <;> exact EVm.no q
    | [x], rx, q =>
      obtain ⟨v, rfl, rv⟩ := rt1 rx
      cases h : items? x with
      | none =>
        have e : bltP .tuple [x] = .stuck := by show (match items? x with | some xs => R.ok (PV.tup xs) | none => .stuck) = _; rw [h]
        rw [e] at q
        exact q.no
      | some ys =>
        have e : bltP .tuple [x] = .ok (.tup ys) := by show (match items? x with | some xs => R.ok (PV.tup xs) | none => .stuck) = _; rw [h]
        rw [e] at q
        cases fr with
        | true => exact False.elim q
        | false =>
          have lay : ∀ (a : Addr) (ws : List V), (∀ p, H p = none → xs = xs) → ys.length ≤ szL → Reps C.K C.G (hid S H) ys ws → ∀ l, H l = none → Q (.ref l) (upd H l (.tup ws)) := fun a ws _ h3 h4 l nl => by
            have sm : Same H (upd H l (.tup ws)) := fun b o z => by
              rw [upd_ne (ne_of_none z nl)]
              exact z
            refine q (.ref l) _ sm ⟨l, ws, rfl, SqT.of (hid_some.mpr ⟨fun z => ?_, upd_same⟩), h3, Reps.mono (hid_same sm) _ _ h4⟩
            obtain ⟨o, z2⟩ := hS l z
            rw [nl] at z2
            cases z2
          cases x with
          | lst zs =>
            cases h
            obtain ⟨a, ws, rfl, h2, h3, h4⟩ := rv
            exact ⟨a, ws, rfl, .inl ⟨SqL.of h2, lay a ws (fun _ _ => rfl) h3 h4⟩⟩
          | lsk zs =>
            cases h
            obtain ⟨a, ws, rfl, h2, h3, h4⟩ := rv
            exact ⟨a, ws, rfl, .inl ⟨by rw [← eK]; exact hid_le.seq h2, lay a ws (fun _ _ => rfl) h3 h4⟩⟩
          | tup zs =>
            cases h
            obtain ⟨a, ws, rfl, h2, h3, h4⟩ := rv
            exact ⟨a, ws, rfl, .inr ⟨by rw [← eK]; exact Same.tup hid_le h2, q _ H (Same.refl _) ⟨a, ws, rfl, h2, h3, h4⟩⟩⟩
          | _ => cases h
  | .all => by
    refine ⟨_, bltB (f := .all) (cr_all hc) PyProof.Rows.boot_all (by decide) (by decide), fun C W S σ fr xs vs H Q eK hS rx q => ?_⟩
    match xs, rx, q with
    | [], _, q => exact EVm.no q
    | x :: y :: z, _, q =>
      cases x <;> exact EVm.no q
    | [x], rx, q =>
      obtain ⟨v, rfl, rv⟩ := rt1 rx
      cases h : (lits? x).bind blsOf with
      | none =>
        have e : bltP .all [x] = .stuck := by show (match (lits? x).bind blsOf with | some bs => R.ok (PV.bl (bs.all id)) | none => .stuck) = _; rw [h]
        rw [e] at q
        exact q.no
      | some ns =>
        have e : bltP .all [x] = .ok (.bl (ns.all id)) := by show (match (lits? x).bind blsOf with | some bs => R.ok (PV.bl (bs.all id)) | none => .stuck) = _; rw [h]
        rw [e] at q
        obtain ⟨ys, h1, h2⟩ := bnd_some h
        obtain ⟨a, ws, rfl, h3, _, h4⟩ := lits_ok rv hid_le h1
        exact ⟨a, ns, rfl, by rw [← eK, ← reps_bls h2 h4]; exact h3, q.ret rfl⟩
  | .any => by
    refine ⟨_, bltB (f := .any) (cr_any hc) PyProof.Rows.boot_any (by decide) (by decide), fun C W S σ fr xs vs H Q eK hS rx q => ?_⟩
    match xs, rx, q with
    | [], _, q => exact EVm.no q
    | x :: y :: z, _, q =>
      cases x <;> exact EVm.no q
    | [x], rx, q =>
      obtain ⟨v, rfl, rv⟩ := rt1 rx
      cases h : (lits? x).bind blsOf with
      | none =>
        have e : bltP .any [x] = .stuck := by show (match (lits? x).bind blsOf with | some bs => R.ok (PV.bl (bs.any id)) | none => .stuck) = _; rw [h]
        rw [e] at q
        exact q.no
      | some ns =>
        have e : bltP .any [x] = .ok (.bl (ns.any id)) := by show (match (lits? x).bind blsOf with | some bs => R.ok (PV.bl (bs.any id)) | none => .stuck) = _; rw [h]
        rw [e] at q
        obtain ⟨ys, h1, h2⟩ := bnd_some h
        obtain ⟨a, ws, rfl, h3, _, h4⟩ := lits_ok rv hid_le h1
        exact ⟨a, ns, rfl, by rw [← eK, ← reps_bls h2 h4]; exact h3, q.ret rfl⟩
/-- a value's built-in type -/
theorem ty_ok {K : PySem.W.Frag} {G : Gx} {H Hd : Hp} {x : PV} {v : V} {t : String} (r : RepT K G H Hd x v) (sm : Same Hd H) (h : tyOf x = some t) : TyX K H v (.type t) := by
  cases x with
  | non => cases h; have e : v = .non := r; subst e; exact .base .non
  | bl b => cases h; have e : v = .bl b := r; subst e; exact .base (.bl b)
  | int b => cases h; have e : v = .int b := r; subst e; exact .base (.int b)
  | str b => cases h; have e : v = .str b := r; subst e; exact .base (.str b)
  | lst xs =>
    cases h
    obtain ⟨a, vs, rfl, h2, _⟩ := r
    exact .base (.lst h2)
  | tup xs =>
    cases h
    obtain ⟨a, vs, rfl, h2, _⟩ := r
    rcases Same.tup sm h2 with (h | ⟨o, h⟩) | ⟨o, its, n, h, hc, _⟩
    · exact .base (.tup h)
    · exact .fTuple h
    · exact .kTuple h hc
  | _ => cases h

/-! ### what a loop walks -/
def IterOk (K : PySem.W.Frag) (G : Gx) (Hf Hd : Hp) (J : It) (xs : List PV) : Prop := ∃ (Gp : Hp → Prop) (Y : Nat → Hp → V → Hp → Prop), Walk J xs.length Gp Y ∧ (∀ H', Same Hf H' → Gp H') ∧
  ∀ (i : Nat) (H : Hp) (v : V) (H' : Hp) (S : Addr → Prop), i < xs.length → Y i H v H' → (∀ a, S a → ∃ o, H a = some o) → Same Hd (hid S H) → Same H H' ∧ ∃ x, xs[i]? = some x ∧ Rep K G (hid S H') x v
def tI (C : Cfg) (W : Wh) (ρ : Env') (top : Bool) (r : R (List PV)) : TI := fun σ H Rr => ER C ρ σ H ∧ match r with
  | .ok xs => ∀ J H', Same H H' → IterOk C.K C.G (if top = true then H' else hid (C.S ρ σ) H') (hid (C.S ρ σ) H') J xs → Rr J H'
  | .exc c => ∀ H', Same H H' → W c σ H'
  | .stuck => False
theorem walk_revT {K : PySem.W.Frag} {a : Addr} {xs : List V} : Walk (RT.ItvT K a xs.length) xs.length (fun H => SqT K H a xs) (fun i H x H' => H' = H ∧ xs[xs.length - 1 - i]? = some x) :=
  ⟨fun i _ hi q => ⟨hi, xs, xs[xs.length - 1 - i]'(by omega), q, by simp [show xs.length - 1 - i < xs.length by omega]⟩, fun _ _ => Nat.le_refl _, fun _ _ _ _ _ q y => ⟨y.1, y.2 xs q⟩⟩
theorem walk_zipT {K : PySem.W.Frag} {a b : Addr} {xs ys : List V} {n : Nat} (hn : n = min xs.length ys.length) : Walk (RZ.ItzT K a b) n (fun H => SqT K H a xs ∧ SqT K H b ys) (YPair (fun i => xs[i]?) (fun i => ys[i]?)) := by
  subst hn
  refine ⟨fun i _ hi q => ?_, fun _ q => ⟨xs, ys, q.1, q.2, by omega⟩, fun i H v H' _ q y => ?_⟩
  · have h1 : i < xs.length := by omega
    have h2 : i < ys.length := by omega
    exact ⟨xs, ys, xs[i], ys[i], q.1, q.2, by simp [h1], by simp [h2]⟩
  · obtain ⟨T, x, z, h1, h2, h3, h4, h5⟩ := y
    exact ⟨T, x, z, h1, h2, h3, h4 xs q.1, h5 ys q.2⟩
theorem iter_items {K : PySem.W.Frag} {G : Gx} {Hf Hd : Hp} {J : It} {xs : List PV} {vs : List V} {Gp : Hp → Prop} (w : Walk J vs.length Gp (YAt vs)) (hg : ∀ H', Same Hf H' → Gp H') (r : Reps K G Hd xs vs) : IterOk K G Hf Hd J xs := by
  refine ⟨Gp, YAt vs, by rw [← r.len]; exact w, hg, fun i H v H' S hi y _ sm => ?_⟩
  obtain ⟨rfl, e⟩ := y
  obtain ⟨x, e1, e2⟩ := r.get' e
  exact ⟨Same.refl _, x, e1, Rep.mono sm _ _ e2⟩
theorem iter_rev {K : PySem.W.Frag} {G : Gx} {Hf Hd : Hp} {J : It} {xs : List PV} {vs : List V} {Gp : Hp → Prop} (w : Walk J vs.length Gp (fun i H x H' => H' = H ∧ vs[vs.length - 1 - i]? = some x)) (hg : ∀ H', Same Hf H' → Gp H') (r : Reps K G Hd xs vs) : IterOk K G Hf Hd J xs.reverse := by
  have hl := r.len
  refine ⟨Gp, _, by rw [List.length_reverse, ← hl]; exact w, hg, fun i H v H' S hi y _ sm => ?_⟩
  rw [List.length_reverse] at hi
  obtain ⟨rfl, e⟩ := y
  obtain ⟨x, e1, e2⟩ := r.get' e
  refine ⟨Same.refl _, x, ?_, Rep.mono sm _ _ e2⟩
  rw [List.getElem?_reverse hi, ← hl]
  exact e1
theorem iter_pairs {K : PySem.W.Frag} {G : Gx} {Hf Hd : Hp} {J : It} {xs : List PV} {n : Nat} {Gp : Hp → Prop} {f g : Nat → Option V} (w : Walk J n Gp (YPair f g)) (hg : ∀ H', Same Hf H' → Gp H') (hn : n = xs.length)
    (h : ∀ i v u, i < n → f i = some v → g i = some u → ∃ a b, xs[i]? = some (.tup [a, b]) ∧ Rep K G Hd a v ∧ Rep K G Hd b u) : IterOk K G Hf Hd J xs := by
  subst hn
  refine ⟨Gp, _, w, hg, fun i H v H' S hi y hS sm => ?_⟩
  obtain ⟨T, v1, v2, rfl, nT, rfl, e1, e2⟩ := y
  obtain ⟨a, b, h1, h2, h3⟩ := h i v1 v2 hi e1 e2
  have s2 : Same H (upd H T (.tup [v1, v2])) := fun b o z => by
    rw [upd_ne (ne_of_none z nT)]
    exact z
  have sm2 := sm.trans (hid_same (S := S) s2)
  refine ⟨s2, _, h1, T, [v1, v2], rfl, SqT.of (hid_some.mpr ⟨fun z => ?_, upd_same⟩), by show 2 ≤ szL; decide, .cons (Rep.mono sm2 _ _ h2) (.cons (Rep.mono sm2 _ _ h3) .nil)⟩
  obtain ⟨o, z2⟩ := hS T z
  rw [nT] at z2
  cases z2
theorem enumP_len : ∀ (n : Nat) (xs : List PV), (enumP n xs).length = xs.length
  | _, [] => rfl
  | n, x :: xs => by
    show (enumP (n + 1) xs).length + 1 = xs.length + 1
    rw [enumP_len]
theorem enumP_get : ∀ (n : Nat) (xs : List PV) (i : Nat) (x : PV), xs[i]? = some x → (enumP n xs)[i]? = some (.tup [.int ((n + i : Nat) : Int), x])
  | _, [], i, x, h => by simp at h
  | n, y :: xs, 0, x, h => by
    have e : y = x := by simpa using h
    subst e
    rfl
  | n, y :: xs, i + 1, x, h => by
    have e := enumP_get (n + 1) xs i x (by simpa using h)
    show (enumP (n + 1) xs)[i]? = _
    rw [e, show n + 1 + i = n + (i + 1) by omega]
theorem zipP_len : ∀ (xs ys : List PV), (zipP xs ys).length = min xs.length ys.length
  | [], ys => by simp [zipP]
  | x :: xs, [] => by simp [zipP]
  | x :: xs, y :: ys => by
    show (zipP xs ys).length + 1 = _
    rw [zipP_len, List.length_cons, List.length_cons]
    omega
theorem zipP_get : ∀ (xs ys : List PV) (i : Nat) (x y : PV), xs[i]? = some x → ys[i]? = some y → (zipP xs ys)[i]? = some (.tup [x, y])
  | [], ys, i, x, y, h, _ => by simp at h
  | x :: xs, [], i, _, _, _, h => by simp at h
  | a :: xs, b :: ys, 0, x, y, h, h' => by
    have e : a = x := by simpa using h
    have e' : b = y := by simpa using h'
    subst e e'
    rfl
  | a :: xs, b :: ys, i + 1, x, y, h, h' => zipP_get xs ys i x y (by simpa using h) (by simpa using h')
theorem rangeP_len (lo : Int) (n : Nat) : (rangeP lo n).length = n := by
  unfold rangeP
  rw [List.length_map, List.length_range]
theorem rangeP_get {lo : Int} {n i : Nat} (h : i < n) : (rangeP lo n)[i]? = some (.int (lo + (i : Int))) := by
  unfold rangeP
  rw [List.getElem?_map, List.getElem?_range h]
  rfl
theorem iter_range {K : PySem.W.Frag} {G : Gx} {Hf Hd : Hp} {lo : Int} {n : Nat} : IterOk K G Hf Hd (Itr lo n) (rangeP lo n) := by
  refine ⟨fun _ => True, _, by rw [rangeP_len]; exact walk_range, fun _ _ => trivial, fun i H v H' S hi y _ _ => ?_⟩
  rw [rangeP_len] at hi
  obtain ⟨rfl, rfl⟩ := y
  exact ⟨Same.refl _, _, rangeP_get hi, rfl⟩
end
end MP

/-! MP, part 6: each kind of expression keeps its meaning. -/
namespace MP
open PySem PySem.Spec PyProof.Rows L2

/-! ### targets -/
def sigSet : List Nat → List V → L2.St → L2.St
  | i :: is, v :: vs, σ => sigSet is vs (σ.set i (some v))
  | _, _, σ => σ
theorem _root_.L2.PGs.imp {X : Cx} {e : List Expr} {t t' : TGs} (h : PGs X e t) (k : ∀ v σ H Q, t' v σ H Q → t v σ H Q) : PGs X e t' := ⟨fun pins s σ H v u Q I r q => h.run pins s σ H v u Q I r (k v σ H Q q)⟩
theorem chkNs_each {N : List Str} {sc : Scope} {fnb : Str → Bool} {env : Env} : ∀ {is : List Nat} {es : List Expr}, chkNs N sc fnb is es = true → (assignEach es env).length = es.length ∧ (assignEach es env).findIdx? (·.1) = none ∧ is.length = es.length
  | [], [], _ => ⟨rfl, rfl, rfl⟩
  | [], _ :: _, h => by cases h
  | i :: is, [], h => by cases h
  | i :: is, e :: es, h => by
    cases e with
    | Name x p =>
      have h' : (decide (N[i]? = some x) && locB sc fnb x && chkNs N sc fnb is es) = true := h
      rw [Bool.and_eq_true] at h'
      obtain ⟨h1, h2, h3⟩ := chkNs_each (env := env) h'.2
      refine ⟨?_, ?_, ?_⟩
      · show (assignEach es env).length + 1 = es.length + 1
        rw [h1]
      · show List.findIdx? (·.1) ((false, assign (.Name x p) env) :: assignEach es env) = none
        rw [List.findIdx?_cons, h2]
        rfl
      · rw [List.length_cons, List.length_cons, h3]
    | _ => cases h
section
variable {z : Cz} {X : Cx} {W : Wh} {C : Cfg} {ρ : Env'}
theorem pgs_names (g : Good0 z X) : ∀ {is : List Nat} {es : List Expr}, chkNs z.N z.sc z.fnb is es = true → PGs X es (fun vs σ H Q => vs.length = es.length ∧ Q (sigSet is vs σ) H)
  | [], [], _ => pgs_nil.imp fun vs σ H Q h => ⟨List.length_eq_zero_iff.mp h.1, by
      have e := h.2
      exact e⟩
  | [], _ :: _, h => by cases h
  | i :: is, [], h => by cases h
  | i :: is, e :: es, h => by
    cases e with
    | Name x p =>
      have h' : (decide (z.N[i]? = some x) && locB z.sc z.fnb x && chkNs z.N z.sc z.fnb is es) = true := h
      simp only [Bool.and_eq_true, decide_eq_true_eq] at h'
      obtain ⟨⟨h1, h2⟩, h3⟩ := h'
      obtain ⟨l1, l2⟩ := g.loc h2
      have hp : PG X (.Name x p) (gName i) := pg_name (by rw [g.hN]; exact g.nd) (by rw [g.hN]; exact h1) l1 l2
      refine (pgs_cons hp (pgs_names g h3) rfl).imp fun vs σ H Q q => ?_
      obtain ⟨q1, q2⟩ := q
      cases vs with
      | nil => cases q1
      | cons v r => exact ⟨v, r, rfl, Nat.succ.inj q1, q2⟩
    | _ => cases h
theorem ER.set' {σ : L2.St} {H : Hp} (h : ER C ρ σ H) (i : Nat) {x : PV} {v : V} (r : Rep C.K C.G (hid (C.S ρ σ) H) x v) : ER C (ρ.set i (.fr x)) (σ.set i (some v)) H ∧ ∀ a, own (ρ.set i (.fr x)) (σ.set i (some v)) a → own ρ σ a := by
  by_cases hi : i < ρ.length
  · exact ⟨h.set hi r, own_set (fun q => q) hi⟩
  · rw [set_self (by omega), List.set_eq_of_length_le (by rw [← h.len]; omega)]
    exact ⟨h, fun _ q => q⟩
theorem setN_ok {σ : L2.St} {H Hd : Hp} : ∀ {is : List Nat} {xs : List PV} {vs : List V} {ρ ρ1 : Env'} {σ : L2.St}, setN is xs ρ = some ρ1 → Reps C.K C.G Hd xs vs → Same Hd (hid (C.S ρ σ) H) → ER C ρ σ H →
    ER C ρ1 (sigSet is vs σ) H ∧ (∀ j, j ∉ is → (sigSet is vs σ)[j]? = σ[j]?) ∧ (∀ a, own ρ1 (sigSet is vs σ) a → own ρ σ a) ∧ is.length = xs.length
  | [], [], vs, ρ, ρ1, σ, h, r, _, e => by
    cases h
    exact ⟨e, fun _ _ => rfl, fun _ q => q, rfl⟩
  | [], _ :: _, vs, ρ, ρ1, σ, h, r, _, e => by cases h
  | i :: is, [], vs, ρ, ρ1, σ, h, r, _, e => by cases h
  | i :: is, x :: xs, vs, ρ, ρ1, σ, h, r, sm, e => by
    obtain ⟨v, r', rfl, r1, r2⟩ := r
    obtain ⟨e1, o1⟩ := e.set' i (Rep.mono sm _ _ r1)
    obtain ⟨k1, k2, k3, k4⟩ := setN_ok (H := H) (Hd := Hd) (σ := σ.set i (some v)) (show setN is xs (ρ.set i (.fr x)) = some ρ1 from h) r2 (sm.trans (hid_sub fun a z => z.imp id (o1 a))) e1
    refine ⟨k1, fun j hj => ?_, fun a q => o1 a (k3 a q), by rw [List.length_cons, List.length_cons, k4]⟩
    have h1 : j ≠ i := fun e => hj (by rw [e]; exact List.mem_cons_self)
    have h2 : j ∉ is := fun q => hj (List.mem_cons_of_mem _ q)
    rw [show (sigSet (i :: is) (v :: r') σ) = sigSet is r' (σ.set i (some v)) from rfl, k2 j h2, List.getElem?_set_ne (Ne.symm h1)]
/-- a target takes the value x -/
def tG (C : Cfg) (ρ : Env') (tg : Tgt) (x : PV) : TG := fun v σ H Q => ER C ρ σ H ∧ Rep C.K C.G (hid (C.S ρ σ) H) x v ∧ match bindT tg x ρ with
  | some ρ1 => ∀ σ1, ER C ρ1 σ1 H → (∀ j, j ∉ slotsT tg → σ1[j]? = σ[j]?) → (∀ a, own ρ1 σ1 a → own ρ σ a) → Q σ1 H
  | none => False
theorem pg_T (g : Good0 z X) (gc : GoodC z X C) (hc : X.calm = true) {tg : Tgt} {e : Expr} (h : chkT z.N z.sc z.fnb tg e = true) (x : PV) : PG X e (tG C ρ tg x) := by
  cases tg with
  | nm i =>
    cases e with
    | Name n p =>
      have h' : (decide (z.N[i]? = some n) && locB z.sc z.fnb n) = true := h
      simp only [Bool.and_eq_true, decide_eq_true_eq] at h'
      obtain ⟨l1, l2⟩ := g.loc h'.2
      refine (pg_name (i := i) (by rw [g.hN]; exact g.nd) (by rw [g.hN]; exact h'.1) l1 l2).imp fun v σ H Q q => ?_
      obtain ⟨e, r, q⟩ := q
      obtain ⟨e1, o1⟩ := e.set' i r
      refine q _ e1 (fun j hj => ?_) o1
      have hj' : j ≠ i := by simpa [slotsT] using hj
      exact List.getElem?_set_ne (Ne.symm hj')
    | _ => cases h
  | tp is =>
    cases e with
    | Tuple es k p =>
      have h' : chkNs z.N z.sc z.fnb is es = true := h
      obtain ⟨n1, n2, n3⟩ := chkNs_each (env := X.env) h'
      refine (L2.PG.or (pg_tup hc (pgs_names g h') n1 n2) (pg_lst hc (pgs_names g h') n1 n2)).imp fun v σ H Q q => ?_
      obtain ⟨e, r, q⟩ := q
      have eK : C.K = X.K := gc.hK.trans g.hK.symm
      cases x with
      | tup xs =>
        obtain ⟨a, vs, rfl, k2, _, k4⟩ := r
        cases hb : setN is xs ρ with
        | none =>
          rw [show bindT (.tp is) (.tup xs) ρ = none from hb] at q
          exact False.elim q
        | some ρ1 =>
          rw [show bindT (.tp is) (.tup xs) ρ = some ρ1 from hb] at q
          obtain ⟨j1, j2, j3, j4⟩ := setN_ok (σ := σ) hb k4 (Same.refl _) e
          have hl : vs.length = es.length := by rw [k4.len, ← j4, n3]
          exact .inl ⟨a, vs, rfl, by rw [← eK]; exact Same.tup hid_le k2, hl, hl, q _ j1 j2 j3⟩
      | lst xs =>
        obtain ⟨a, vs, rfl, k2, _, k4⟩ := r
        cases hb : setN is xs ρ with
        | none =>
          rw [show bindT (.tp is) (.lst xs) ρ = none from hb] at q
          exact False.elim q
        | some ρ1 =>
          rw [show bindT (.tp is) (.lst xs) ρ = some ρ1 from hb] at q
          obtain ⟨j1, j2, j3, j4⟩ := setN_ok (σ := σ) hb k4 (Same.refl _) e
          have hl : vs.length = es.length := by rw [k4.len, ← j4, n3]
          exact .inr ⟨a, vs, rfl, SqL.of (hid_le _ _ k2), hl, hl, q _ j1 j2 j3⟩
      | lsk xs =>
        obtain ⟨a, vs, rfl, k2, _, k4⟩ := r
        cases hb : setN is xs ρ with
        | none =>
          rw [show bindT (.tp is) (.lsk xs) ρ = none from hb] at q
          exact False.elim q
        | some ρ1 =>
          rw [show bindT (.tp is) (.lsk xs) ρ = some ρ1 from hb] at q
          obtain ⟨j1, j2, j3, j4⟩ := setN_ok (σ := σ) hb k4 (Same.refl _) e
          have hl : vs.length = es.length := by rw [k4.len, ← j4, n3]
          exact .inr ⟨a, vs, rfl, by rw [← eK]; exact hid_le.seq k2, hl, hl, q _ j1 j2 j3⟩
      | _ => exact False.elim q
    | _ => cases h
end

/-! ### an expression's meaning is kept -/
def isF : Exp → Bool
  | .list _ => true
  | .comp _ _ _ _ _ => true
  | .slc _ _ _ => true
  | .bin .add _ _ => true
  | .bin .mul _ _ => true
  | .blt .list _ => true
  | .call _ _ fr _ _ => fr
  | .meth _ _ _ _ fr _ _ => fr
  | _ => false
abbrev tM (fr : Bool) (C : Cfg) (W : Wh) (ρ : Env') (r : R PV) : TE := fun σ H Q => ER C ρ σ H ∧ EVm fr C W (C.S ρ σ) r σ H Q
structure SE (X : Cx) (C : Cfg) (W : Wh) (ρ : Env') (e : Expr) (c : Exp) : Prop where
  m : ∀ fr, (fr = true → isF c = true) → PE X e (tM fr C W ρ (evE c ρ))
  t : PE X e (tT C W ρ (topOf c (evE c ρ) ρ))
  b : isIte c = false → PT X e (tTb C W ρ ((evE c ρ).bnd truR))
section
variable {z : Cz} {X : Cx} {W : Wh} {C : Cfg} {ρ : Env'}
theorem SE.e {e : Expr} {c : Exp} (h : SE X C W ρ e c) : PE X e (tE C W ρ (evE c ρ)) := h.m false (fun z => nomatch z)
theorem EV.toT {S : Addr → Prop} {r : R PV} {σ : L2.St} {H : Hp} {Q : VK} (h : EVt C W S r σ H Q) : EV C W S r σ H Q := by
  cases r with
  | ok x => exact fun v H' s q => h v H' s (RepT.of q hid_le)
  | exc c => exact h
  | stuck => exact h
/-- the test by the value's truth -/
theorem pt_of {e : Expr} {r : R PV} (h : PE X e (tE C W ρ r)) (hp : isPlainT e = true) (eK : C.K = X.K) : PT X e (tTb C W ρ (r.bnd truR)) := by
  refine (pt_truth h (plain_t hp X.env)).imp fun σ H Q q => ⟨q.1, ?_⟩
  have q2 := q.2
  cases r with
  | ok x =>
    intro v H' s rx
    have q3 : EVb W (truR x) σ H Q := q2
    unfold truR at q3
    cases hb : truP x with
    | none =>
      rw [hb] at q3
      exact False.elim q3
    | some b =>
      rw [hb] at q3
      exact ⟨b, by rw [← eK]; exact tru_ok' (Rep.mono hid_le _ _ rx) hb, q3 H' s⟩
  | exc c => exact q2
  | stuck => exact q2
theorem SE.plain {e : Expr} {c : Exp} (nv : isVar c = false) (hp : isPlainT e = true) (eK : C.K = X.K) (h : ∀ fr, (fr = true → isF c = true) → PE X e (tM fr C W ρ (evE c ρ))) : SE X C W ρ e c := by
  have he : PE X e (tE C W ρ (evE c ρ)) := h false (fun z => nomatch z)
  refine ⟨h, ?_, fun _ => pt_of he hp eK⟩
  have e : topOf c (evE c ρ) ρ = evE c ρ := by cases c <;> first | rfl | cases nv
  rw [e]
  exact he.imp fun σ H Q q => ⟨q.1, EV.toT q.2⟩
theorem SE.plainE {e : Expr} {c : Exp} (nv : isVar c = false) (nf : isF c = false) (hp : isPlainT e = true) (eK : C.K = X.K) (h : PE X e (tE C W ρ (evE c ρ))) : SE X C W ρ e c :=
  SE.plain nv hp eK fun fr hf => by
    cases fr with
    | false => exact h
    | true => rw [nf] at hf; exact absurd (hf rfl) Bool.false_ne_true
/-- a comparison: the value and the test by one reading -/
theorem SE.cmpr {e : Expr} {c : Exp} {t : TE} (nv : isVar c = false) (nf : isF c = false) (he : PE X e t) (hb : PT X e (fun σ H Q => t σ H fun x H' => ∃ k, x = .bl k ∧ Q k H')) (bl : ∀ x, evE c ρ = .ok x → ∃ b, x = .bl b)
    (key : ∀ σ H Q, tE C W ρ (evE c ρ) σ H Q → t σ H Q) : SE X C W ρ e c := by
  refine ⟨fun fr hf => ?_, ?_, fun _ => ?_⟩
  · cases fr with
    | false => exact he.imp key
    | true => rw [nf] at hf; exact absurd (hf rfl) Bool.false_ne_true
  · have e : topOf c (evE c ρ) ρ = evE c ρ := by cases c <;> first | rfl | cases nv
    rw [e]
    exact he.imp fun σ H Q q => key σ H Q ⟨q.1, EV.toT q.2⟩
  · refine hb.imp fun σ H Q q => key σ H _ ⟨q.1, ?_⟩
    have q2 := q.2
    cases h : evE c ρ with
    | ok x =>
      obtain ⟨b, rfl⟩ := bl x h
      rw [h] at q2
      intro v H' s rx
      have e : v = .bl b := rx
      subst e
      exact ⟨b, rfl, q2 H' s⟩
    | exc k =>
      rw [h] at q2
      exact q2
    | stuck =>
      rw [h] at q2
      exact q2
theorem pe_no {e : Expr} {t : TE} (h : ∀ σ H Q, ¬ t σ H Q) : PE X e t := ⟨fun pins s σ H Q I q => absurd q (h σ H Q)⟩
/-- two operands -/
theorem bin_key {fr : Bool} {ra rb : R PV} {f : PV → PV → R PV} {r0 : R2} (hr : ∀ (σ : L2.St) (x y : PV) (v w : V) (H : Hp) (Q : VK), (∀ a, C.S ρ σ a → ∃ o, H a = some o) → RepT C.K C.G H (hid (C.S ρ σ) H) x v → RepT C.K C.G H (hid (C.S ρ σ) H) y w → EVm fr C W (C.S ρ σ) (f x y) σ H Q → r0 v w H Q)
    (σ : L2.St) (H : Hp) (Q : VK) (q : tM fr C W ρ (ra.bnd fun x => rb.bnd fun y => f x y) σ H Q) : tOp r0 (tT C W ρ ra) (tT C W ρ rb) σ H Q := by
  obtain ⟨e, q⟩ := q
  have Z := zM (fr := fr) (C := C) (W := W) (S := C.S ρ σ) (σ := σ) (Q := Q)
  refine ⟨e, EVt.step Z.hx Z.hs Z.hm q fun x v H1 s1 r1 q1 => ⟨e.ext s1, EVt.step Z.hx Z.hs Z.hm q1 fun y w H2 s2 r2 q2 => ?_⟩⟩
  exact hr σ x y v w H2 Q ((e.ext (s1.trans s2)).inS) (r1.mono s2 (hid_same s2)) r2 q2
theorem se_bin (eK : C.K = X.K) {op : BOp} {a b : Exp} {l r : Expr} {p : Pos} (ha : SE X C W ρ l a) (hb : SE X C W ρ r b) : SE X C W ρ (.BinOp l (bopA op) r p) (.bin op a b) := by
  refine SE.plain rfl rfl eK fun fr hf => ?_
  obtain ⟨r0, ho, hr⟩ := bopOk (X := X) op
  exact (pe_op ho ha.t hb.t).imp (bin_key fun σ x y v w H Q => hr C W (C.S ρ σ) σ fr x y v w H Q)
theorem se_cmp (eK : C.K = X.K) (hu : X.A.units + 64 < cLine) {op : COp} {a b : Exp} {l r : Expr} {p : Pos} (ha : SE X C W ρ l a) (hb : SE X C W ρ r b) : SE X C W ρ (.Compare l [copA op] [r] p) (.cmp op a b) := by
  obtain ⟨r0, ho, hr⟩ := copOk hu op
  have nm : behindInMarks (copA op) r = false := by cases op <;> exact nomark r
  refine SE.cmpr rfl rfl (pe_cmpR ho ha.t hb.t nm) (pt_cmpR ho ha.t hb.t nm) (fun x h => ?_) (bin_key (fr := false) fun σ x y v w H Q _ rx ry q => hr C W (C.S ρ σ) σ x y v w H Q rx ry eK q)
  have h' : ((topOf a (evE a ρ) ρ).bnd fun x => (topOf b (evE b ρ) ρ).bnd fun y => cop op x y) = .ok x := h
  cases h1 : topOf a (evE a ρ) ρ with
  | ok u =>
    rw [h1] at h'
    cases h2 : topOf b (evE b ρ) ρ with
    | ok w =>
      rw [h2] at h'
      exact cop_bl h'
    | exc c => rw [h2] at h'; cases h'
    | stuck => rw [h2] at h'; cases h'
  | exc c => rw [h1] at h'; cases h'
  | stuck => rw [h1] at h'; cases h'
theorem se_isIn (eK : C.K = X.K) {neg : Bool} {a b : Exp} {l r : Expr} {p : Pos} (nm : behindInMarks (if neg then CmpOp.NotIn else CmpOp.In) r = false) (ha : SE X C W ρ l a) (hb : SE X C W ρ r b) : SE X C W ρ (.Compare l [if neg then .NotIn else .In] [r] p) (.isIn neg a b) := by
  have inbl : ∀ {x y u : PV}, inP neg x y = .ok u → ∃ b, u = .bl b := fun {x y u} h => by
    unfold inP at h
    split at h
    · cases h
      exact ⟨_, rfl⟩
    · cases h
  refine SE.cmpr rfl rfl (pe_cmpR (op_inP neg) ha.e hb.t nm) (pt_cmpR (op_inP neg) ha.e hb.t nm) (fun x h => ?_) fun σ H Q q => ?_
  · have h' : ((evE a ρ).bnd fun x => (topOf b (evE b ρ) ρ).bnd fun y => inP neg x y) = .ok x := h
    cases h1 : evE a ρ with
    | ok u =>
      rw [h1] at h'
      cases h2 : topOf b (evE b ρ) ρ with
      | ok w =>
        rw [h2] at h'
        exact inbl h'
      | exc c => rw [h2] at h'; cases h'
      | stuck => rw [h2] at h'; cases h'
    | exc c => rw [h1] at h'; cases h'
    | stuck => rw [h1] at h'; cases h'
  · obtain ⟨e, q⟩ := q
    have Z := zE (C := C) (W := W) (S := C.S ρ σ) (σ := σ) (Q := Q)
    refine ⟨e, EV.step Z.hx Z.hs Z.hm q fun x v H1 s1 r1 q1 => ⟨e.ext s1, EVt.step Z.hx Z.hs Z.hm q1 fun y w H2 s2 r2 q2 => ?_⟩⟩
    have q2' : EV C W (C.S ρ σ) (inP neg x y) σ H2 Q := q2
    cases h : inP neg x y with
    | ok u =>
      rw [h] at q2'
      rw [← eK]
      refine in_ok (Rep.mono (hid_same s2) _ _ r1) r2 hid_le h fun b eb => ?_
      subst eb
      exact EV.ret q2' rfl
    | exc c =>
      unfold inP at h
      split at h <;> cases h
    | stuck =>
      rw [h] at q2'
      exact False.elim q2'
theorem se_isN (eK : C.K = X.K) {a : Exp} {l : Expr} {k : Nat} {p p2 : Pos} (ha : SE X C W ρ l a) : SE X C W ρ (.Compare l [.Is] [.Constant .none k p2] p) (.isN a) := by
  refine SE.cmpr rfl rfl (pe_cmpR op_isN ha.e pe_non (nomark _)) (pt_cmpR op_isN ha.e pe_non (nomark _)) (fun x h => ?_) fun σ H Q q => ?_
  · have h' : ((evE a ρ).bnd fun x => R.ok (PV.bl (isNonP x))) = .ok x := h
    cases h1 : evE a ρ with
    | ok u => rw [h1] at h'; cases h'; exact ⟨_, rfl⟩
    | exc c => rw [h1] at h'; cases h'
    | stuck => rw [h1] at h'; cases h'
  · obtain ⟨e, q⟩ := q
    have Z := zE (C := C) (W := W) (S := C.S ρ σ) (σ := σ) (Q := Q)
    refine ⟨e, EV.step Z.hx Z.hs Z.hm q fun x v H1 s1 r1 q1 => ⟨rfl, ?_⟩⟩
    have q2 := EV.ret (C := C) (W := W) (S := C.S ρ σ) (σ := σ) (x := .bl (isNonP x)) q1 rfl
    have e : decide (v = V.non) = isNonP x := by
      cases x with
      | non => have e : v = .non := r1; subst e; rfl
      | bl b => have e : v = .bl b := r1; subst e; rfl
      | int b => have e : v = .int b := r1; subst e; rfl
      | str b => have e : v = .str b := r1; subst e; rfl
      | lst xs => obtain ⟨a, vs, rfl, _⟩ := r1; rfl
      | lsk xs => obtain ⟨a, vs, rfl, _⟩ := r1; rfl
      | tup xs => obtain ⟨a, vs, rfl, _⟩ := r1; rfl
      | obj c xs => obtain ⟨a, dx, vs, rfl, _⟩ := r1; rfl
    rw [e]
    exact q2
theorem se_notN (eK : C.K = X.K) {a : Exp} {l : Expr} {k : Nat} {p p2 : Pos} (ha : SE X C W ρ l a) : SE X C W ρ (.Compare l [.IsNot] [.Constant .none k p2] p) (.notN a) := by
  refine SE.cmpr rfl rfl (pe_cmpR op_notN ha.e pe_non (nomark _)) (pt_cmpR op_notN ha.e pe_non (nomark _)) (fun x h => ?_) fun σ H Q q => ?_
  · have h' : ((evE a ρ).bnd fun x => R.ok (PV.bl (!isNonP x))) = .ok x := h
    cases h1 : evE a ρ with
    | ok u => rw [h1] at h'; cases h'; exact ⟨_, rfl⟩
    | exc c => rw [h1] at h'; cases h'
    | stuck => rw [h1] at h'; cases h'
  · obtain ⟨e, q⟩ := q
    have Z := zE (C := C) (W := W) (S := C.S ρ σ) (σ := σ) (Q := Q)
    refine ⟨e, EV.step Z.hx Z.hs Z.hm q fun x v H1 s1 r1 q1 => ⟨rfl, ?_⟩⟩
    have q2 := EV.ret (C := C) (W := W) (S := C.S ρ σ) (σ := σ) (x := .bl (!isNonP x)) q1 rfl
    have e : (!decide (v = V.non)) = !isNonP x := by
      cases x with
      | non => have e : v = .non := r1; subst e; rfl
      | bl b => have e : v = .bl b := r1; subst e; rfl
      | int b => have e : v = .int b := r1; subst e; rfl
      | str b => have e : v = .str b := r1; subst e; rfl
      | lst xs => obtain ⟨a, vs, rfl, _⟩ := r1; rfl
      | lsk xs => obtain ⟨a, vs, rfl, _⟩ := r1; rfl
      | tup xs => obtain ⟨a, vs, rfl, _⟩ := r1; rfl
      | obj c xs => obtain ⟨a, dx, vs, rfl, _⟩ := r1; rfl
    rw [e]
    exact q2
/-- two comparisons in a row -/
theorem se_chain (eK : C.K = X.K) (hu : X.A.units + 64 < cLine) {o1 o2 : COp} {a b c : Exp} {l m r : Expr} {p : Pos} (hm : lastMarks [copA o1, copA o2] [m, r] = false) (ha : SE X C W ρ l a) (hb : SE X C W ρ m b) (hc : SE X C W ρ r c) : SE X C W ρ (.Compare l [copA o1, copA o2] [m, r] p) (.chain o1 o2 a b c) := by
  obtain ⟨r1, ho1, hr1⟩ := copOk hu o1
  obtain ⟨r2, ho2, hr2⟩ := copOk hu o2
  refine SE.cmpr rfl rfl (pe_chain ho1 ho2 ha.e hb.e hc.e hm) (pt_chain ho1 ho2 ha.e hb.e hc.e hm) (fun x h => ?_) fun σ H Q q => ?_
  · have h' : ((evE a ρ).bnd fun x => (evE b ρ).bnd fun y => (cop o1 x y).bnd fun z => (isB z).bnd fun k => if k = true then (evE c ρ).bnd fun w => cop o2 y w else .ok (.bl false)) = .ok x := h
    cases h1 : evE a ρ with
    | ok u =>
      rw [h1] at h'
      cases h2 : evE b ρ with
      | ok w =>
        rw [h2] at h'
        cases h3 : cop o1 u w with
        | ok s =>
          obtain ⟨k, rfl⟩ := cop_bl h3
          have h4 : ((cop o1 u w).bnd fun z => (isB z).bnd fun k => if k = true then (evE c ρ).bnd fun v => cop o2 w v else .ok (.bl false)) = .ok x := h'
          rw [h3] at h4
          cases k with
          | false => cases h4; exact ⟨_, rfl⟩
          | true =>
            have h5 : ((evE c ρ).bnd fun v => cop o2 w v) = .ok x := h4
            cases h6 : evE c ρ with
            | ok t => rw [h6] at h5; exact cop_bl h5
            | exc kk => rw [h6] at h5; cases h5
            | stuck => rw [h6] at h5; cases h5
        | exc kk =>
          have h4 : ((cop o1 u w).bnd fun z => (isB z).bnd fun k => if k = true then (evE c ρ).bnd fun v => cop o2 w v else .ok (.bl false)) = .ok x := h'
          rw [h3] at h4; cases h4
        | stuck =>
          have h4 : ((cop o1 u w).bnd fun z => (isB z).bnd fun k => if k = true then (evE c ρ).bnd fun v => cop o2 w v else .ok (.bl false)) = .ok x := h'
          rw [h3] at h4; cases h4
      | exc kk => rw [h2] at h'; cases h'
      | stuck => rw [h2] at h'; cases h'
    | exc kk => rw [h1] at h'; cases h'
    | stuck => rw [h1] at h'; cases h'
  · obtain ⟨e, q⟩ := q
    have Z := zE (C := C) (W := W) (S := C.S ρ σ) (σ := σ) (Q := Q)
    refine ⟨e, EV.step Z.hx Z.hs Z.hm q fun x v H1 s1 rx q1 => ⟨e.ext s1, EV.step Z.hx Z.hs Z.hm q1 fun y w H2 s2 ry q2 => ?_⟩⟩
    have e2 := (e.ext s1).ext s2
    have rx2 := Rep.mono (hid_same (S := C.S ρ σ) s2) _ _ rx
    refine hr1 C W (C.S ρ σ) σ x y v w H2 _ (RepT.of rx2 hid_le) (RepT.of ry hid_le) eK ?_
    have q2' : EV C W (C.S ρ σ) ((cop o1 x y).bnd fun z => (isB z).bnd fun k => if k = true then (evE c ρ).bnd fun w => cop o2 y w else .ok (.bl false)) σ H2 Q := q2
    cases h3 : cop o1 x y with
    | ok s =>
      obtain ⟨k, rfl⟩ := cop_bl h3
      rw [h3] at q2'
      intro u H3 s3 ru
      have eu : u = .bl k := ru
      subst eu
      refine ⟨k, rfl, ?_⟩
      have q3 := EV.mono (C := C) (W := W) (S := C.S ρ σ) (σ := σ) (r := if k = true then (evE c ρ).bnd fun w => cop o2 y w else .ok (.bl false)) q2' s3
      cases k with
      | false => exact EV.ret (C := C) (W := W) (S := C.S ρ σ) (σ := σ) (x := .bl false) q3 rfl
      | true =>
        refine ⟨e2.ext s3, EV.step Z.hx Z.hs Z.hm q3 fun t u' H4 s4 rt q4 => ?_⟩
        exact hr2 C W (C.S ρ σ) σ y t w u' H4 Q (RepT.of (Rep.mono (hid_same (s3.trans s4)) _ _ ry) hid_le) (RepT.of rt hid_le) eK q4
    | exc kk =>
      rw [h3] at q2'
      exact q2'
    | stuck =>
      rw [h3] at q2'
      exact False.elim q2'
theorem se_const (eK : C.K = X.K) {c : Exp} {e : Expr} {x : PV} {v : V} (nv : isVar c = false) (nf : isF c = false) (hp : isPlainT e = true) (he : PE X e (tC v)) (hx : toV x = some v) (hc : evE c ρ = .ok x) : SE X C W ρ e c := by
  refine SE.plainE nv nf hp eK (he.imp fun σ H Q q => ?_)
  have q2 := q.2
  rw [hc] at q2
  exact EV.ret q2 hx
theorem se_var (g : Good0 z X) (gc : GoodC z X C) {i : Nat} {x : Str} {p : Pos} (hN : z.N[i]? = some x) (hv : visB z.sc x = true) (hk : okN x = true) : SE X C W ρ (.Name x p) (.var i) := by
  have eK : C.K = X.K := gc.hK.trans g.hK.symm
  unfold okN at hk
  rw [Bool.and_eq_true] at hk
  have hp : PE X (.Name x p) (tVar i) := pe_var (by rw [g.hN]; exact hN) (by rw [g.hsc]; exact vis_of hv) (by simpa using hk.1) (by simpa using hk.2)
  have he : PE X (.Name x p) (tE C W ρ (evE (.var i) ρ)) := hp.imp fun σ H Q q => by
    obtain ⟨e, q⟩ := q
    have q' : EV C W (C.S ρ σ) (match sl ρ i with | .fr v => R.ok v | _ => .stuck) σ H Q := q
    cases h : sl ρ i with
    | fr y =>
      rw [h] at q'
      obtain ⟨w, e1, e2⟩ := e.fr h
      exact ⟨w, e1, q' w H (Same.refl _) e2⟩
    | _ => rw [h] at q'; exact False.elim q'
  refine ⟨fun fr hf => ?_, hp.imp fun σ H Q q => ?_, fun _ => pt_of he rfl eK⟩
  · cases fr with
    | false => exact he
    | true => exact absurd (hf rfl) Bool.false_ne_true
  · obtain ⟨e, q⟩ := q
    have q' : EVt C W (C.S ρ σ) (match sl ρ i with | .fr v => R.ok v | .ow xs => R.ok (.lst xs) | _ => .stuck) σ H Q := q
    cases h : sl ρ i with
    | fr y =>
      rw [h] at q'
      obtain ⟨w, e1, e2⟩ := e.fr h
      exact ⟨w, e1, q' w H (Same.refl _) (RepT.of e2 hid_le)⟩
    | ow xs =>
      rw [h] at q'
      obtain ⟨a, vs, h1, h2, _, _, h5, h6⟩ := e.ow h
      exact ⟨_, h1, q' _ H (Same.refl _) ⟨a, vs, rfl, h2, h5, h6⟩⟩
    | _ => rw [h] at q'; exact False.elim q'
theorem se_neg (eK : C.K = X.K) {a : Exp} {l : Expr} {p : Pos} (ha : SE X C W ρ l a) : SE X C W ρ (.UnaryOp .USub l p) (.neg a) := by
  refine SE.plainE rfl rfl rfl eK ((pe_un un_neg ha.e).imp fun σ H Q q => ?_)
  obtain ⟨e, q⟩ := q
  have Z := zE (C := C) (W := W) (S := C.S ρ σ) (σ := σ) (Q := Q)
  refine ⟨e, EV.step Z.hx Z.hs Z.hm q fun x v H1 s1 r1 q1 => ?_⟩
  cases x with
  | int i =>
    have e1 : v = .int i := r1
    exact ⟨i, e1, EV.ret (C := C) (W := W) (S := C.S ρ σ) (σ := σ) (x := .int (-i)) q1 rfl⟩
  | _ => exact False.elim q1
theorem se_not (eK : C.K = X.K) {a : Exp} {l : Expr} {p : Pos} (ni : isIte a = false) (ha : SE X C W ρ l a) : SE X C W ρ (.UnaryOp .Not l p) (.not a) := by
  have val : ∀ σ H Q, tE C W ρ (evE (.not a) ρ) σ H Q → tNotT X.K (tE C W ρ (evE a ρ)) σ H Q := fun σ H Q q => by
    obtain ⟨e, q⟩ := q
    have Z := zE (C := C) (W := W) (S := C.S ρ σ) (σ := σ) (Q := Q)
    refine ⟨e, EV.step Z.hx Z.hs Z.hm q fun x v H1 s1 r1 q1 => ?_⟩
    have q1' : EV C W (C.S ρ σ) ((truR x).bnd fun b => .ok (.bl (!b))) σ H1 Q := q1
    unfold truR at q1'
    cases h : truP x with
    | none => rw [h] at q1'; exact False.elim q1'
    | some b =>
      rw [h] at q1'
      exact ⟨b, by rw [← eK]; exact tru_ok' (Rep.mono hid_le _ _ r1) h, EV.ret (C := C) (W := W) (S := C.S ρ σ) (σ := σ) (x := .bl (!b)) q1' rfl⟩
  have he : PE X (.UnaryOp .Not l p) (tE C W ρ (evE (.not a) ρ)) := (pe_notT ha.e).imp val
  refine ⟨fun fr hf => ?_, he.imp fun σ H Q q => ⟨q.1, EV.toT q.2⟩, fun _ => (pt_not (ha.b ni)).imp fun σ H Q q => ?_⟩
  · cases fr with
    | false => exact he
    | true => exact absurd (hf rfl) Bool.false_ne_true
  · obtain ⟨e, q⟩ := q
    refine ⟨e, ?_⟩
    have q' : EVb W (((evE a ρ).bnd fun x => (truR x).bnd fun b => R.ok (PV.bl (!b))).bnd truR) σ H Q := q
    show EVb W ((evE a ρ).bnd truR) σ H (fun c H1 => Q (!c) H1)
    cases h : evE a ρ with
    | ok x =>
      rw [h] at q'
      have q2 : EVb W (((truR x).bnd fun b => R.ok (PV.bl (!b))).bnd truR) σ H Q := q'
      show EVb W (truR x) σ H (fun c H1 => Q (!c) H1)
      cases h2 : truR x with
      | ok b => rw [h2] at q2; exact q2
      | exc c => rw [h2] at q2; exact q2
      | stuck => rw [h2] at q2; exact q2
    | exc c => rw [h] at q'; exact q'
    | stuck => rw [h] at q'; exact q'
theorem se_ite (eK : C.K = X.K) {c a b : Exp} {t x y : Expr} {p : Pos} (ni : isIte c = false) (hc : SE X C W ρ t c) (ha : SE X C W ρ x a) (hb : SE X C W ρ y b) : SE X C W ρ (.IfExp t x y p) (.ite c a b) := by
  have he : PE X (.IfExp t x y p) (tE C W ρ (evE (.ite c a b) ρ)) := (pe_ifExp (hc.b ni) ha.e hb.e).imp fun σ H Q q => by
    obtain ⟨e, q⟩ := q
    refine ⟨e, ?_⟩
    have q' : EV C W (C.S ρ σ) ((evE c ρ).bnd fun x => (truR x).bnd fun k => if k = true then evE a ρ else evE b ρ) σ H Q := q
    have q3 : EV C W (C.S ρ σ) (((evE c ρ).bnd truR).bnd fun k => if k = true then evE a ρ else evE b ρ) σ H Q := by
      cases h : evE c ρ with
      | ok u => rw [h] at q'; exact q'
      | exc k => rw [h] at q'; exact q'
      | stuck => rw [h] at q'; exact q'
    have Z := zE (C := C) (W := W) (S := C.S ρ σ) (σ := σ) (Q := Q)
    refine EVb.step Z.hx Z.hs Z.hm q3 fun k H1 s1 q1 => ?_
    cases k with
    | true => exact iteT ⟨e.ext s1, q1⟩
    | false => exact iteF ⟨e.ext s1, q1⟩
  refine ⟨fun fr hf => ?_, he.imp fun σ H Q q => ⟨q.1, EV.toT q.2⟩, fun h => by cases h⟩
  cases fr with
  | false => exact he
  | true => exact absurd (hf rfl) Bool.false_ne_true
theorem se_brw {e : Expr} {a : Exp} {i : Nat} (ha : SE X C W (frz i ρ) e a) : SE X C W ρ e (.brw i a) := by
  have down : ∀ {σ H Q}, tE C W ρ (evE (.brw i a) ρ) σ H Q → tE C W (frz i ρ) (evE a (frz i ρ)) σ H Q := fun {σ H Q} q => by
    obtain ⟨e, q⟩ := q
    refine ⟨e.frz i, ?_⟩
    have q' : EV C W (C.S ρ σ) ((evE a (frz i ρ)).bnd fun x => if flatP x = true then R.ok x else .stuck) σ H Q := q
    cases h : evE a (frz i ρ) with
    | ok x =>
      rw [h] at q'
      have q2 : EV C W (C.S ρ σ) (if flatP x = true then R.ok x else .stuck) σ H Q := q'
      intro v H1 s1 rx
      by_cases hf : flatP x = true
      · rw [if_pos hf] at q2
        unfold flatP at hf
        obtain ⟨w, hw⟩ := Option.isSome_iff_exists.mp hf
        have e1 := rep_flat hw rx
        subst e1
        exact q2 v H1 s1 (flat_rep hw)
      · rw [if_neg hf] at q2
        exact False.elim q2
    | exc k => rw [h] at q'; exact q'
    | stuck => rw [h] at q'; exact q'
  have he : PE X e (tE C W ρ (evE (.brw i a) ρ)) := ha.e.imp fun σ H Q q => down q
  refine ⟨fun fr hf => ?_, he.imp fun σ H Q q => ⟨q.1, EV.toT q.2⟩, fun h => (ha.b h).imp fun σ H Q q => ?_⟩
  · cases fr with
    | false => exact he
    | true => exact absurd (hf rfl) Bool.false_ne_true
  · obtain ⟨e, q⟩ := q
    refine ⟨e.frz i, ?_⟩
    have q' : EVb W (((evE a (frz i ρ)).bnd fun x => if flatP x = true then R.ok x else .stuck).bnd truR) σ H Q := q
    cases h : evE a (frz i ρ) with
    | ok x =>
      rw [h] at q'
      have q2 : EVb W ((if flatP x = true then R.ok x else .stuck : R PV).bnd truR) σ H Q := q'
      by_cases hf : flatP x = true
      · rw [if_pos hf] at q2
        exact q2
      · rw [if_neg hf] at q2
        exact False.elim q2
    | exc k => rw [h] at q'; exact q'
    | stuck => rw [h] at q'; exact q'
theorem pe_false {e : Expr} {c : Exp} (nv : isVar c = false) (h : evE c ρ = .stuck) : SE X C W ρ e c := by
  have ht : topOf c (evE c ρ) ρ = evE c ρ := by cases c <;> first | rfl | cases nv
  refine ⟨fun fr _ => pe_no fun σ H Q q => ?_, pe_no fun σ H Q q => ?_, fun _ => ⟨fun pins s σ H Q I q => ?_⟩⟩
  · have q2 := q.2
    rw [h] at q2
    cases fr <;> exact q2
  · have q2 := q.2
    rw [ht, h] at q2
    exact q2
  · have q2 := q.2
    rw [h] at q2
    exact False.elim q2
end
end MP

/-! MP, part 7: lists, calls, loops' iterators. -/
namespace MP
open PySem PySem.Spec PyProof.Rows L2

section
variable {z : Cz} {X : Cx} {W : Wh} {C : Cfg} {ρ : Env'}
structure SEs (X : Cx) (C : Cfg) (W : Wh) (ρ : Env') (es : List Expr) (cs : Exps) : Prop where
  a : PA X es (tA C W ρ (evEs cs ρ))
  t : PA X es (tAT C W ρ (evTs cs ρ))
theorem ses_nil : SEs X C W ρ [] .nil := ⟨pa_nil.imp fun σ H Q q => q.2 [] H (Same.refl _) rfl, pa_nil.imp fun σ H Q q => q.2 [] H (Same.refl _) rfl⟩
theorem ses_cons {e : Expr} {c : Exp} {es : List Expr} {cs : Exps} (ha : SE X C W ρ e c) (hs : SEs X C W ρ es cs) (st : isStar e = false) : SEs X C W ρ (e :: es) (.cons c cs) := by
  refine ⟨(pa_cons ha.e hs.a (star_of st es X.env)).imp fun σ H Q q => ?_, (pa_cons ha.t hs.t (star_of st es X.env)).imp fun σ H Q q => ?_⟩
  · obtain ⟨e, q⟩ := q
    have Z := zS (C := C) (W := W) (S := C.S ρ σ) (σ := σ) (Q := Q)
    exact ⟨e, EV.step Z.hx Z.hs Z.hm q fun x v H1 s1 r1 q1 => ⟨e.ext s1, EVs.step Z.hx Z.hs Z.hm q1 fun xs vs H2 s2 r2 q2 => q2 (v :: vs) H2 (Same.refl _) (.cons (Rep.mono (hid_same s2) _ _ r1) r2)⟩⟩
  · obtain ⟨e, q⟩ := q
    have Z : Zc' W σ (fun r H => EVts C W (C.S ρ σ) r σ H Q) := ⟨fun _ _ h => h, fun _ h => h, fun r _ _ e h => by
      cases r with
      | ok x => exact fun v H' s q => h v H' (e.trans s) q
      | exc c => exact fun H' s => h H' (e.trans s)
      | stuck => exact h⟩
    exact ⟨e, EVt.step Z.hx Z.hs Z.hm q fun x v H1 s1 r1 q1 => ⟨e.ext s1, EVts.step Z.hx Z.hs Z.hm q1 fun xs vs H2 s2 r2 q2 => q2 (v :: vs) H2 (Same.refl _) ⟨v, vs, rfl, r1.mono s2 (hid_same s2), r2⟩⟩⟩
theorem se_list (eK : C.K = X.K) {es : List Expr} {cs : Exps} {p : Pos} (hs : SEs X C W ρ es cs) : SE X C W ρ (.List es p) (.list cs) := by
  refine SE.plain rfl rfl eK fun fr hf => (pe_lst hs.a).imp fun σ H Q q => ?_
  obtain ⟨e, q⟩ := q
  have Z := zM (fr := fr) (C := C) (W := W) (S := C.S ρ σ) (σ := σ) (Q := Q)
  refine ⟨e, EVs.step Z.hx Z.hs Z.hm q fun xs vs H1 s1 r1 q1 => ?_⟩
  have q1' : EVm fr C W (C.S ρ σ) (if xs.length ≤ szL then R.ok (.lst xs) else .stuck) σ H1 Q := q1
  by_cases hz : xs.length ≤ szL
  · rw [if_pos hz] at q1'
    exact ⟨by rw [r1.len, szL_eq]; exact hz, fun p np => q1'.new (e.ext s1).inS np hz r1⟩
  · rw [if_neg hz] at q1'
    exact q1'.no
theorem se_tuple (eK : C.K = X.K) {es : List Expr} {cs : Exps} {p : Pos} {k} (hs : SEs X C W ρ es cs) : SE X C W ρ (.Tuple es k p) (.tuple cs) := by
  refine SE.plainE rfl rfl rfl eK ((pe_tup hs.a).imp fun σ H Q q => ?_)
  obtain ⟨e, q⟩ := q
  have Z := zE (C := C) (W := W) (S := C.S ρ σ) (σ := σ) (Q := Q)
  refine ⟨e, EVs.step Z.hx Z.hs Z.hm q fun xs vs H1 s1 r1 q1 => ?_⟩
  have q1' : EV C W (C.S ρ σ) (if xs.length ≤ szL then R.ok (.tup xs) else .stuck) σ H1 Q := q1
  by_cases hz : xs.length ≤ szL
  · rw [if_pos hz] at q1'
    refine ⟨by rw [r1.len, szL_eq]; exact hz, fun p np => ?_⟩
    have sm : Same H1 (upd H1 p (.tup vs)) := fun a o q => by
      rw [upd_ne (ne_of_none q np)]
      exact q
    have nS : ¬ C.S ρ σ p := fun z => by
      obtain ⟨o, q⟩ := (e.ext s1).inS p z
      rw [np] at q
      cases q
    exact q1' (.ref p) _ sm ⟨p, vs, rfl, SqT.of (hid_some.mpr ⟨nS, upd_same⟩), hz, Reps.mono (hid_same sm) _ _ r1⟩
  · rw [if_neg hz] at q1'
    exact False.elim q1'

/-! ### and, or -/
structure SBo (X : Cx) (C : Cfg) (W : Wh) (ρ : Env') (x : Expr) (r : R PV) : Prop where
  e : PE X x (tE C W ρ r)
  w : PW X x (tTb C W ρ (r.bnd truR))
theorem sb_one {op} {a : Expr} {c : Exp} {p : Pos} (hop : op = .And ∨ op = .Or) (ni : isIte c = false) (ha : SE X C W ρ a c) : SBo X C W ρ (.BoolOp op [a] p) (evE c ρ) := by
  refine ⟨pe_one ha.e, ?_⟩
  rcases hop with rfl | rfl
  · exact pw_and1 (ha.b ni)
  · exact pw_or1 (ha.b ni)
theorem sb_and {a b : Expr} {vs : List Expr} {c : Exp} {r : R PV} {p : Pos} (ni : isIte c = false) (ha : SE X C W ρ a c) (hb : SBo X C W ρ (.BoolOp .And (b :: vs) p) r) :
    SBo X C W ρ (.BoolOp .And (a :: b :: vs) p) ((evE c ρ).bnd fun x => (isB x).bnd fun k => if k = true then r else .ok (.bl false)) := by
  refine ⟨(pe_and ha.e hb.e).imp fun σ H Q q => ?_, (pw_and (ha.b ni) hb.w).imp fun σ H Q q => ?_⟩
  · obtain ⟨e, q⟩ := q
    have Z := zE (C := C) (W := W) (S := C.S ρ σ) (σ := σ) (Q := Q)
    refine ⟨e, EV.step Z.hx Z.hs Z.hm q fun x v H1 s1 r1 q1 => ?_⟩
    cases x with
    | bl k =>
      have e1 : v = .bl k := r1
      refine ⟨k, e1, ?_⟩
      have q1' : EV C W (C.S ρ σ) (if k = true then r else .ok (.bl false)) σ H1 Q := q1
      cases k with
      | true => exact ⟨e.ext s1, q1'⟩
      | false => exact EV.ret (C := C) (W := W) (S := C.S ρ σ) (σ := σ) (x := .bl false) q1' rfl
    | _ => exact False.elim q1
  · obtain ⟨e, q⟩ := q
    refine ⟨e, ?_⟩
    have q' : EVb W (((evE c ρ).bnd fun x => (isB x).bnd fun k => if k = true then r else .ok (.bl false)).bnd truR) σ H Q := q
    show EVb W ((evE c ρ).bnd truR) σ H (fun k H1 => if k = true then tTb C W ρ (r.bnd truR) σ H1 Q else Q false H1)
    cases h : evE c ρ with
    | ok x =>
      rw [h] at q'
      cases x with
      | bl k =>
        have q2 : EVb W ((if k = true then r else .ok (.bl false)).bnd truR) σ H Q := q'
        show ∀ H', Same H H' → (if k = true then tTb C W ρ (r.bnd truR) σ H' Q else Q false H')
        intro H' s
        cases k with
        | true => exact ⟨e.ext s, q2.mono s⟩
        | false => exact q2 H' s
      | _ => exact False.elim q'
    | exc k => rw [h] at q'; exact q'
    | stuck => rw [h] at q'; exact q'
theorem sb_or {a b : Expr} {vs : List Expr} {c : Exp} {r : R PV} {p : Pos} (ni : isIte c = false) (ha : SE X C W ρ a c) (hb : SBo X C W ρ (.BoolOp .Or (b :: vs) p) r) :
    SBo X C W ρ (.BoolOp .Or (a :: b :: vs) p) ((evE c ρ).bnd fun x => (isB x).bnd fun k => if k = true then .ok (.bl true) else r) := by
  refine ⟨(pe_or ha.e hb.e).imp fun σ H Q q => ?_, (pw_or (ha.b ni) hb.w).imp fun σ H Q q => ?_⟩
  · obtain ⟨e, q⟩ := q
    have Z := zE (C := C) (W := W) (S := C.S ρ σ) (σ := σ) (Q := Q)
    refine ⟨e, EV.step Z.hx Z.hs Z.hm q fun x v H1 s1 r1 q1 => ?_⟩
    cases x with
    | bl k =>
      have e1 : v = .bl k := r1
      refine ⟨k, e1, ?_⟩
      have q1' : EV C W (C.S ρ σ) (if k = true then .ok (.bl true) else r) σ H1 Q := q1
      cases k with
      | false => exact ⟨e.ext s1, q1'⟩
      | true => exact EV.ret (C := C) (W := W) (S := C.S ρ σ) (σ := σ) (x := .bl true) q1' rfl
    | _ => exact False.elim q1
  · obtain ⟨e, q⟩ := q
    refine ⟨e, ?_⟩
    have q' : EVb W (((evE c ρ).bnd fun x => (isB x).bnd fun k => if k = true then .ok (.bl true) else r).bnd truR) σ H Q := q
    show EVb W ((evE c ρ).bnd truR) σ H (fun k H1 => if k = true then Q true H1 else tTb C W ρ (r.bnd truR) σ H1 Q)
    cases h : evE c ρ with
    | ok x =>
      rw [h] at q'
      cases x with
      | bl k =>
        have q2 : EVb W ((if k = true then .ok (.bl true) else r).bnd truR) σ H Q := q'
        show ∀ H', Same H H' → (if k = true then Q true H' else tTb C W ρ (r.bnd truR) σ H' Q)
        intro H' s
        cases k with
        | false => exact ⟨e.ext s, q2.mono s⟩
        | true => exact q2 H' s
      | _ => exact False.elim q'
    | exc k => rw [h] at q'; exact q'
    | stuck => rw [h] at q'; exact q'
theorem SBo.se {e : Expr} {c : Exp} {r : R PV} (h : SBo X C W ρ e r) (hc : evE c ρ = r) (nv : isVar c = false) (nf : isF c = false) : SE X C W ρ e c := by
  subst hc
  have et : topOf c (evE c ρ) ρ = evE c ρ := by cases c <;> first | rfl | cases nv
  refine ⟨fun fr hf => ?_, ?_, fun _ => h.w.pt⟩
  · cases fr with
    | false => exact h.e
    | true => rw [nf] at hf; exact absurd (hf rfl) Bool.false_ne_true
  · rw [et]
    exact h.e.imp fun σ H Q q => ⟨q.1, EV.toT q.2⟩

/-! ### places, slices, fields -/
theorem atI_rep {K : PySem.W.Frag} {G : Gx} {H : Hp} {xs : List PV} {vs : List V} {i : Int} {x : PV} (r : Reps K G H xs vs) (h : atI xs i = some x) : ∃ v, atI vs i = some v ∧ Rep K G H x v := by
  unfold atI at h ⊢
  rw [r.len]
  obtain ⟨j, h1, h2⟩ := bnd_some h
  obtain ⟨v, h3, h4⟩ := r.get h2
  exact ⟨v, by rw [h1]; exact h3, h4⟩
theorem se_idx (eK : C.K = X.K) {a b : Exp} {l r : Expr} {p : Pos} (hs : isSlice r = false) (ha : SE X C W ρ l a) (hb : SE X C W ρ r b) : SE X C W ρ (.Subscript l r p) (.idx a b) := by
  refine SE.plainE rfl rfl rfl eK ((pe_ix (ix_list.or ix_tup) ha.t hb.e (plain_ix hs)).imp fun σ H Q q => ?_)
  obtain ⟨e, q⟩ := q
  have Z := zE (C := C) (W := W) (S := C.S ρ σ) (σ := σ) (Q := Q)
  refine ⟨e, EVt.step Z.hx Z.hs Z.hm q fun x v H1 s1 r1 q1 => ⟨e.ext s1, EV.step Z.hx Z.hs Z.hm q1 fun y w H2 s2 r2 q2 => ?_⟩⟩
  have q2' : EV C W (C.S ρ σ) (idxP x y) σ H2 Q := q2
  have r1' := r1.mono s2 (hid_same (S := C.S ρ σ) s2)
  unfold idxP at q2'
  cases hi : items? x with
  | none =>
    rw [hi] at q2'
    cases y <;> exact False.elim q2'
  | some xs =>
    rw [hi] at q2'
    cases y with
    | int i =>
      have q3 : EV C W (C.S ρ σ) (match atI xs i with | some v => R.ok v | none => .stuck) σ H2 Q := q2'
      cases ht : atI xs i with
      | none => rw [ht] at q3; exact False.elim q3
      | some u =>
        rw [ht] at q3
        obtain ⟨adr, vs, rfl, k1, _, k2⟩ := items_ok r1' hid_le hi
        obtain ⟨u', k3, k4⟩ := atI_rep k2 ht
        have e2 : w = .int i := r2
        rw [eK] at k1
        have fin := q3 u' H2 (Same.refl _) k4
        rcases k1 with k1 | k1
        · exact .inl ⟨adr, vs, i, u', rfl, e2, k1, k3, fin⟩
        · exact .inr ⟨adr, vs, i, u', rfl, e2, k1, k3, fin⟩
    | _ => exact False.elim q2'
def EVo (W : Wh) (r : R (Option Int)) (σ : L2.St) (H : Hp) (Q : Option Int → Hp → Prop) : Prop := match r with
  | .ok b => ∀ H', Same H H' → Q b H'
  | .exc c => ∀ H', Same H H' → W c σ H'
  | .stuck => False
abbrev tO (C : Cfg) (W : Wh) (ρ : Env') (r : R (Option Int)) : TO := fun σ H Q => ER C ρ σ H ∧ EVo W r σ H Q
theorem _root_.L2.PO.imp {X : Cx} {e : Option Expr} {t t' : TO} (h : PO X e t) (k : ∀ σ H Q, t' σ H Q → t σ H Q) : PO X e t' := ⟨fun pins s σ H Q I q => h.run pins s σ H Q I (k σ H Q q)⟩
theorem po_no : PO X none (tO C W ρ (.ok none)) := po_none.imp fun σ H Q q => q.2 H (Same.refl _)
theorem po_e {e : Expr} {c : Exp} (ha : SE X C W ρ e c) : PO X (some e) (tO C W ρ (partP (evE c ρ))) := (po_some ha.e).imp fun σ H Q q => by
  obtain ⟨e, q⟩ := q
  refine ⟨e, ?_⟩
  have q' : EVo W (partP (evE c ρ)) σ H Q := q
  cases h : evE c ρ with
  | ok x =>
    rw [h] at q'
    cases x with
    | int i =>
      intro v H' s r
      have e1 : v = .int i := r
      exact ⟨i, e1, q' H' s⟩
    | _ => exact False.elim q'
  | exc k => rw [h] at q'; exact q'
  | stuck => rw [h] at q'; exact False.elim q'
theorem EVo.step {α : Type} {r : R (Option Int)} {f : Option Int → R α} {T : Option Int → Hp → Prop} {Z : R α → Hp → Prop} {σ : L2.St} {H : Hp} (hx : ∀ c H, Z (.exc c) H → ∀ H', Same H H' → W c σ H') (hs : ∀ H, ¬ Z .stuck H) (hm : ∀ r H H', Same H H' → Z r H → Z r H') (h : Z (r.bnd f) H)
    (k : ∀ x H1, Same H H1 → Z (f x) H1 → T x H1) : EVo W r σ H T := by
  cases r with
  | ok x => exact fun H1 s => k x H1 s (hm _ _ _ s h)
  | exc c => exact hx c H h
  | stuck => exact hs H h
theorem cut_rep {K : PySem.W.Frag} {G : Gx} {H : Hp} {xs : List PV} {vs : List V} {lo hi : Option Int} (r : Reps K G H xs vs) : Reps K G H (cutP xs lo hi) (cutV vs lo hi) := by
  unfold cutP cutV
  rw [r.len]
  exact (r.drop _).take _
theorem cutP_len (xs : List PV) (lo hi : Option Int) : (cutP xs lo hi).length ≤ xs.length := by
  unfold cutP
  rw [List.length_take, List.length_drop]
  omega
theorem se_slc (eK : C.K = X.K) {a lo hi : Exp} {x : Expr} {l u : Option Expr} {p p2 : Pos} (ha : SE X C W ρ x a) (hl : PO X l (tO C W ρ (if isOmit lo then .ok none else partP (evE lo ρ)))) (hu : PO X u (tO C W ρ (if isOmit hi then .ok none else partP (evE hi ρ)))) :
    SE X C W ρ (.Subscript x (.Slice l u none p2) p) (.slc a lo hi) := by
  refine SE.plain rfl rfl eK fun fr hf => (pe_slice sl_list ha.t hl hu).imp fun σ H Q q => ?_
  obtain ⟨e, q⟩ := q
  have Z := zM (fr := fr) (C := C) (W := W) (S := C.S ρ σ) (σ := σ) (Q := Q)
  refine ⟨e, EVt.step Z.hx Z.hs Z.hm q fun y v H1 s1 r1 q1 => ⟨e.ext s1, EVo.step Z.hx Z.hs Z.hm q1 fun i H2 s2 q2 => ⟨(e.ext s1).ext s2, EVo.step Z.hx Z.hs Z.hm q2 fun j H3 s3 q3 => ?_⟩⟩⟩
  have q3' : EVm fr C W (C.S ρ σ) (slcP y i j) σ H3 Q := q3
  have e3 := ((e.ext s1).ext s2).ext s3
  have r3 := r1.mono (s2.trans s3) (hid_same (S := C.S ρ σ) (s2.trans s3))
  cases hy : lits? y with
  | none => cases y <;> first | exact q3'.no | cases hy
  | some xs =>
    obtain ⟨adr, vs, rfl, k1, k2, k3⟩ := lits_ok r3 hid_le hy
    have q4 : EVm fr C W (C.S ρ σ) (.ok (.lst (cutP xs i j))) σ H3 Q := by cases y <;> first | (cases hy; exact q3') | cases hy
    rw [eK] at k1
    exact ⟨adr, vs, rfl, k1, fun p np => q4.new e3.inS np (Nat.le_trans (cutP_len xs i j) k2) (cut_rep k3)⟩
theorem zip_lookup {f : Str} {v : V} : ∀ {fs : List Str} {vs : List V} {k : Nat}, fs.Nodup → fs[k]? = some f → vs[k]? = some v → (fs.zip vs).lookup f = some v
  | [], vs, k, _, h, _ => by simp at h
  | g :: fs, [], k, _, _, h => by simp at h
  | g :: fs, w :: vs, 0, nd, h1, h2 => by
    simp only [List.getElem?_cons_zero, Option.some.injEq] at h1 h2
    subst h1 h2
    rw [List.zip_cons_cons, List.lookup_cons]
    simp
  | g :: fs, w :: vs, k + 1, nd, h1, h2 => by
    simp only [List.getElem?_cons_succ] at h1 h2
    rw [List.nodup_cons] at nd
    have ne : f ≠ g := fun e => nd.1 (by rw [← e]; exact List.mem_of_getElem? h1)
    rw [List.zip_cons_cons, List.lookup_cons, show (f == g) = false from beq_false_of_ne ne]
    exact zip_lookup nd.2 h1 h2
theorem zip_none {f : Str} : ∀ {fs : List Str} {vs : List V}, (∀ y ∈ fs, (y == f) = false) → (fs.zip vs).lookup f = none
  | [], vs, _ => rfl
  | g :: fs, [], _ => rfl
  | g :: fs, w :: vs, h => by
    have h1 := h g List.mem_cons_self
    have ne : f ≠ g := fun e => by rw [e] at h1; simp at h1
    rw [List.zip_cons_cons, List.lookup_cons, show (f == g) = false from beq_false_of_ne ne]
    exact zip_none fun y hy => h y (List.mem_cons_of_mem _ hy)
theorem se_fld (eK : C.K = X.K) {a : Exp} {l : Expr} {c k : Nat} {f : Str} {p : Pos} (hs : isSuper l = false) (hc : Cls X.K (C.G.cl c)) (hn : NoAttr X.K (C.G.cl c) f) (hk : (C.G.fld c)[k]? = some f) (nd : (C.G.fld c).Nodup) (ha : SE X C W ρ l a) :
    SE X C W ρ (.Attribute l f p) (.fld a c k f) := by
  refine SE.plainE rfl rfl rfl eK ((pe_fld ha.e (base_of hs f X.env _)).imp fun σ H Q q => ?_)
  obtain ⟨e, q⟩ := q
  have Z := zE (C := C) (W := W) (S := C.S ρ σ) (σ := σ) (Q := Q)
  refine ⟨e, EV.step Z.hx Z.hs Z.hm q fun x v H1 s1 r1 q1 => ?_⟩
  have q1' : EV C W (C.S ρ σ) (fldP c k x) σ H1 Q := q1
  cases x with
  | obj c' xs =>
    have q2 : EV C W (C.S ρ σ) (if c' = c then (match xs[k]? with | some v => R.ok v | none => .stuck) else .stuck) σ H1 Q := q1'
    by_cases h : c' = c
    · subst h
      rw [if_pos rfl] at q2
      obtain ⟨adr, dx, vs, rfl, k1, k2, k3⟩ := r1
      cases hx : xs[k]? with
      | none => rw [hx] at q2; exact False.elim q2
      | some y =>
        rw [hx] at q2
        obtain ⟨u, k4, k5⟩ := k3.get hx
        exact ⟨adr, _, dx, _, u, rfl, hid_le _ _ k1, hc, hn, zip_lookup nd hk k4, q2 u H1 (Same.refl _) k5⟩
    · rw [if_neg h] at q2
      exact False.elim q2
  | _ => exact False.elim q1'
theorem se_glob (eK : C.K = X.K) (g0 : Good0 z X) {x : Str} {v : PV} {v0 : V} {u : Value} {e : Expr} (hg : glN z.sc x e = true) (hm : z.mg x = some u) (r : RelV v0 u) (hr : ∀ H, Rep C.K C.G H v v0) : SE X C W ρ e (.glob x v) := by
  cases e with
  | Name y p =>
    have hg' : (decide (y = x) && glB z.sc x) = true := hg
    rw [Bool.and_eq_true, decide_eq_true_eq] at hg'
    obtain ⟨rfl, h2⟩ := hg'
    obtain ⟨h3, h4⟩ := g0.gl h2
    exact SE.plainE rfl rfl rfl eK ((pe_glob h3 (by rw [g0.hmg]; exact hm) r h4).imp fun σ H Q q => q.2 v0 H (Same.refl _) (hr _))
  | _ => cases hg

/-! ### calls -/
theorem all_star {N : List Str} {sc : Scope} : ∀ {es : List Expr} {cs : Exps}, chkEs N sc cs es = true → es.all (fun e => !isStar e) = true
  | [], cs, _ => rfl
  | e :: es, .nil, h => by cases h
  | e :: es, .cons c cs, h => by
    have h' : (chkE N sc c e && !isStar e && chkEs N sc cs es) = true := h
    simp only [Bool.and_eq_true] at h'
    rw [List.all_cons, h'.1.2, all_star h'.2]
    rfl
/-- what the contract asks, from the meaning -/
theorem sp_call {fr fr' : Bool} {n : Nat} {g : List PV → R PV} {dfl : List PV} {dvs : List V} {σ : L2.St} {H1 : Hp} {Q : VK} {xs : List PV} {vs : List V} (gc : C.K = z.K ∧ C.G = z.G) (hf : fr' = true → fr = true) (hl : ∀ args : List PV, args.length ≠ n → g args = .stuck) (hd : toVs dfl = some dvs) (e : ER C ρ σ H1) (r : Reps C.K C.G (hid (C.S ρ σ) H1) xs vs)
    (q : EVm fr' C W (C.S ρ σ) (g (xs ++ dfl)) σ H1 Q) : spOf z.K z.G fr n g (vs ++ dvs) H1 Q (wE z W σ) := by
  have r2 : Reps C.K C.G (hid (C.S ρ σ) H1) (xs ++ dfl) (vs ++ dvs) := r.append (toVs_reps hd)
  rw [gc.1, gc.2] at r2
  have hn : (xs ++ dfl).length = n := by
    by_cases h : (xs ++ dfl).length = n
    · exact h
    · rw [hl _ h] at q
      exact q.no
  refine ⟨by rw [r2.len, hn], C.S ρ σ, xs ++ dfl, e.inS, r2, ?_⟩
  cases hg : g (xs ++ dfl) with
  | ok x =>
    rw [hg] at q
    cases fr' with
    | false =>
      rw [← gc.1, ← gc.2]
      exact .inl q
    | true =>
      cases x with
      | lst ys =>
        rw [← gc.1, ← gc.2]
        exact .inr ⟨hf rfl, ys, rfl, q⟩
      | _ => exact False.elim q
  | exc c =>
    rw [hg] at q
    intro H' s
    refine ⟨c, rfl, rfl, ?_⟩
    cases fr' <;> exact q H' s
  | stuck => rw [hg] at q; exact q.no
theorem _root_.L2.Room.le {k L : Nat} {A : Around} (h : Room L A) (l : k ≤ L) : Room k A := ⟨h.hd, by have := h.dp; omega, by have := h.un; omega⟩
theorem zEs_m {fr : Bool} {σ : L2.St} {Q : VK} : Zc' W σ (fun r H => EVm fr C W (C.S ρ σ) r σ H Q) := zM
theorem se_call (eK : C.K = X.K) (gc : GoodC z X C) (g0 : Good0 z X) (g1 : Good1 z X W) {x : Str} {g : List PV → R PV} {fr : Bool} {dfl : List PV} {cs : Exps} {f : Expr} {args : List Expr} {p : Pos} (hg : glN z.sc x f = true) (ok : CallOk z x g fr dfl) (hs : SEs X C W ρ args cs) {N : List Str} {sc : Scope} (hes : chkEs N sc cs args = true) :
    SE X C W ρ (.Call f args [] p) (.call x g fr dfl cs) := by
  have hst := all_star hes
  cases f with
  | Name y py =>
    have hg' : (decide (y = x) && glB z.sc x) = true := hg
    rw [Bool.and_eq_true, decide_eq_true_eq] at hg'
    obtain ⟨rfl, h2⟩ := hg'
    obtain ⟨h3, h4⟩ := g0.gl h2
    obtain ⟨f, fd, k, ps, dvs, ds, F, hk, hm, kp, hb, hd, hv, hl⟩ := ok
    rw [← g0.hP, ← g0.hw, ← g0.hK, ← g0.hmg, ← g0.hb] at F
    rw [← g0.hmg] at hm
    rw [← g0.hK] at kp hb
    have pas := fun σ => passW g0 g1 σ
    refine SE.plain rfl rfl eK fun fr' hf => ?_
    cases args with
    | nil =>
      cases cs with
      | nil =>
        refine (pe_callG0 F (g1.room.le hk) h3 h4 hm kp hb hv (by rw [g0.hP, g0.hw]; exact pas)).imp fun σ H Q q => ?_
        obtain ⟨e, q⟩ := q
        have q' : EVm fr' C W (C.S ρ σ) (g ([] ++ dfl)) σ H Q := q
        have := sp_call (z := z) (fr := fr) (n := ps.length) ⟨gc.hK, gc.hG⟩ hf hl hd e (show Reps C.K C.G (hid (C.S ρ σ) H) [] [] from rfl) q'
        rw [← g0.hK] at this
        exact this
      | cons c cs => cases hes
    | cons a as =>
      refine (pe_callG F (g1.room.le hk) h3 h4 hm kp hb hv (by rw [g0.hP, g0.hw]; exact pas) hs.a hst).imp fun σ H Q q => ?_
      obtain ⟨e, q⟩ := q
      have Z := zM (fr := fr') (C := C) (W := W) (S := C.S ρ σ) (σ := σ) (Q := Q)
      refine ⟨e, EVs.step Z.hx Z.hs Z.hm q fun xs vs H1 s1 r1 q1 => ?_⟩
      have := sp_call (z := z) (fr := fr) (n := ps.length) ⟨gc.hK, gc.hG⟩ hf hl hd (e.ext s1) r1 q1
      rw [← g0.hK] at this
      exact this
  | _ => cases hg
end
end MP

/-! MP, part 8: methods, classes made, built-ins, isinstance, iterators. -/
namespace MP
open PySem PySem.Spec PyProof.Rows L2

section
variable {z : Cz} {X : Cx} {W : Wh} {C : Cfg} {ρ : Env'}
theorem toV_lk {x : PV} {xs : List PV} (h : toVs (x :: xs) = some []) : False := by
  unfold toVs at h
  split at h <;> cases h
theorem obj_at {K : PySem.W.Frag} {G : Gx} {H : Hp} {x : PV} {v : V} {c : Nat} (h : isObj' c x = true) (r : Rep K G H x v) : ∃ a dx fs, v = .ref a ∧ H a = some (.ins (G.cl c) dx fs) ∧ ∃ vs, fs = (G.fld c).zip vs := by
  cases x with
  | obj c' xs =>
    have e : c' = c := of_decide_eq_true h
    subst e
    obtain ⟨a, dx, vs, h1, h2, _⟩ := r
    exact ⟨a, dx, _, h1, h2, vs, rfl⟩
  | _ => cases h
theorem se_meth (eK : C.K = X.K) (gc : GoodC z X C) (g0 : Good0 z X) (g1 : Good1 z X W) {a : Exp} {c : Nat} {m : Str} {g : List PV → R PV} {fr : Bool} {dfl : List PV} {cs : Exps} {o : Expr} {args : List Expr} {ap p : Pos} (ok : MethOk z c m g fr dfl) (ha : SE X C W ρ o a) (hs : SEs X C W ρ args cs) {N : List Str} {sc : Scope} (hes : chkEs N sc cs args = true)
    (hsu : isSuper o = false) (hn : args.length < 30) (hln : (ap.endLine == p.line) = true) : SE X C W ρ (.Call (.Attribute o m ap) args [] p) (.meth a c m g fr dfl cs) := by
  have hst := all_star hes
  obtain ⟨f, fd, k, ps, dvs, ds, F, hk, hc, hm, hfl, hb, hd, hv, hl⟩ := ok
  rw [← g0.hP, ← g0.hw, ← g0.hK, ← g0.hmg, ← g0.hb] at F
  rw [← g0.hK] at hc hm hb
  have pas := fun σ => passW g0 g1 σ
  have pas' : ∀ σ, PassesAt (L2.CX X.prog X.w) X σ (wE z W σ) := by rw [g0.hP, g0.hw]; exact pas
  refine SE.plain rfl rfl eK fun fr' hf => ?_
  have look : ∀ {vs : List V}, ((z.G.fld c).zip vs).lookup m = none := fun {vs} => zip_none hfl
  cases args with
  | nil =>
    cases cs with
    | nil =>
      refine (pe_methG0 (m := m) ha.e hc hm F (g1.room.le hk) hb hv pas' hsu hln).imp fun σ H Q q => ?_
      obtain ⟨e, q⟩ := q
      have Z := zM (fr := fr') (C := C) (W := W) (S := C.S ρ σ) (σ := σ) (Q := Q)
      refine ⟨e, EV.step Z.hx Z.hs Z.hm q fun x v H1 s1 r1 q1 => ?_⟩
      have q1' : EVm fr' C W (C.S ρ σ) (if isObj' c x then g (x :: ([] ++ dfl)) else .stuck) σ H1 Q := q1
      by_cases ho : isObj' c x = true
      · rw [if_pos ho] at q1'
        obtain ⟨adr, dx, fs, rfl, k1, vs, rfl⟩ := obj_at ho r1
        rw [gc.hG] at k1
        have := sp_call (z := z) (fr := fr) (n := ps.length) (xs := [x]) ⟨gc.hK, gc.hG⟩ hf hl hd (e.ext s1) (.cons r1 .nil) q1'
        rw [← g0.hK] at this
        exact ⟨adr, dx, _, rfl, hid_le _ _ k1, look, this⟩
      · rw [if_neg ho] at q1'
        exact q1'.no
    | cons c cs => cases hes
  | cons a1 as =>
    refine (pe_methG (m := m) ha.e hc hm F (g1.room.le hk) hb hv pas' hs.a hsu hst hn hln).imp fun σ H Q q => ?_
    obtain ⟨e, q⟩ := q
    have Z := zM (fr := fr') (C := C) (W := W) (S := C.S ρ σ) (σ := σ) (Q := Q)
    refine ⟨e, EV.step Z.hx Z.hs Z.hm q fun x v H1 s1 r1 q1 => ?_⟩
    have q1' : EVm fr' C W (C.S ρ σ) (if isObj' c x then (evEs cs ρ).bnd fun xs => g (x :: (xs ++ dfl)) else .stuck) σ H1 Q := q1
    by_cases ho : isObj' c x = true
    · rw [if_pos ho] at q1'
      obtain ⟨adr, dx, fs, rfl, k1, vs, rfl⟩ := obj_at ho r1
      rw [gc.hG] at k1
      refine ⟨adr, dx, _, rfl, hid_le _ _ k1, look, e.ext s1, EVs.step Z.hx Z.hs Z.hm q1' fun xs ws H2 s2 r2 q2 => ?_⟩
      have := sp_call (z := z) (fr := fr) (n := ps.length) (xs := x :: xs) ⟨gc.hK, gc.hG⟩ hf hl hd ((e.ext s1).ext s2) (.cons (Rep.mono (hid_same s2) _ _ r1) r2) q2
      rw [← g0.hK] at this
      exact this
    · rw [if_neg ho] at q1'
      exact q1'.no
theorem se_mk (eK : C.K = X.K) (gc : GoodC z X C) (g0 : Good0 z X) (g1 : Good1 z X W) {x : Str} {c : Nat} {g : List PV → R PV} {dfl : List PV} {cs : Exps} {f : Expr} {args : List Expr} {p : Pos} (hg : glN z.sc x f = true) (ok : MkOk z x c g dfl) (hs : SEs X C W ρ args cs) {N : List Str} {sc : Scope} (hes : chkEs N sc cs args = true) (hne : args ≠ []) :
    SE X C W ρ (.Call f args [] p) (.mk x c g dfl cs) := by
  have hst := all_star hes
  cases f with
  | Name y py =>
    have hg' : (decide (y = x) && glB z.sc x) = true := hg
    rw [Bool.and_eq_true, decide_eq_true_eq] at hg'
    obtain ⟨rfl, h2⟩ := hg'
    obtain ⟨h3, h4⟩ := g0.gl h2
    obtain ⟨f, fd, k, ps, dvs, ds, F, hk, hm, hM, hb, hd, hv, hl⟩ := ok
    rw [← g0.hP, ← g0.hw, ← g0.hK, ← g0.hmg, ← g0.hb] at F
    rw [← g0.hmg] at hm
    rw [← g0.hK] at hb hM
    have pas := fun σ => passW g0 g1 σ
    refine SE.plainE rfl rfl rfl eK ?_
    cases args with
    | nil => exact absurd rfl hne
    | cons a as =>
      refine (pe_makeG hM F (g1.room.le hk) h3 h4 hm hb hv (by rw [g0.hP, g0.hw]; exact pas) hs.a hst).imp fun σ H Q q => ?_
      obtain ⟨e, q⟩ := q
      have Z := zE (C := C) (W := W) (S := C.S ρ σ) (σ := σ) (Q := Q)
      refine ⟨e, EVs.step Z.hx Z.hs Z.hm q fun xs vs H1 s1 r1 q1 => fun x dx nx ndx ne => ?_⟩
      have q1' : EV C W (C.S ρ σ) (g (xs ++ dfl)) σ H1 Q := q1
      have e1 := e.ext s1
      have nS : ¬ C.S ρ σ x := fun z => by
        obtain ⟨o, q⟩ := e1.inS x z
        rw [nx] at q
        cases q
      have hn : (xs ++ dfl).length + 1 = ps.length := by
        by_cases h : (xs ++ dfl).length + 1 = ps.length
        · exact h
        · rw [hl _ h] at q1'
          exact q1'.elim
      have r2 : Reps C.K C.G (hid (C.S ρ σ) H1) (xs ++ dfl) (vs ++ dvs) := r1.append (toVs_reps hd)
      have sm : Same H1 (upd (upd H1 dx (.own x)) x (.ins (z.G.cl c) dx [])) := fun a o q => by
        rw [upd_ne (ne_of_none q nx), upd_ne (ne_of_none q ndx)]
        exact q
      have sm2 : Same (hid (C.S ρ σ) H1) (hid (fun a => C.S ρ σ a ∨ a = x) (upd (upd H1 dx (.own x)) x (.ins (z.G.cl c) dx []))) := fun a o q => by
        obtain ⟨q1, q2⟩ := hid_some.mp q
        exact hid_some.mpr ⟨fun z => z.elim q1 (fun e => ne_of_none q2 nx e), sm _ _ q2⟩
      have keep : ∀ H', (∀ a o, a ≠ x → (upd (upd H1 dx (.own x)) x (.ins (z.G.cl c) dx [])) a = some o → H' a = some o) → Same H1 H' := fun H' h a o q => h a o (ne_of_none q nx) (sm a o q)
      refine ⟨by rw [← hn]; show (vs ++ dvs).length + 1 = _; rw [r2.len], C.S ρ σ, xs ++ dfl, x, dx, vs ++ dvs, fun a z => ?_, nS, rfl, upd_same, ?_, ?_⟩
      · obtain ⟨o, q⟩ := e1.inS a z
        exact ⟨o, sm _ _ q⟩
      · rw [← gc.hG, ← eK]
        rw [← gc.hG] at sm2
        exact Reps.mono sm2 _ _ r2
      · cases hgg : g (xs ++ dfl) with
        | ok y =>
          rw [hgg] at q1'
          intro H' hk' ry
          rw [← gc.hG, ← eK] at ry
          exact ⟨rfl, q1' _ H' (keep H' hk') ry⟩
        | exc k =>
          rw [hgg] at q1'
          exact fun H' hk' => ⟨k, rfl, rfl, q1' H' (keep H' hk')⟩
        | stuck => rw [hgg] at q1'; exact q1'.elim
  | _ => cases hg
theorem se_blt (eK : C.K = X.K) (g0 : Good0 z X) (g1 : Good1 z X W) {f : Blt} {cs : Exps} {fe : Expr} {args : List Expr} {p : Pos} (hg : glN z.sc (bltN f) fe = true) (hm : z.mg (bltN f) = none) (hs : SEs X C W ρ args cs) {N : List Str} {sc : Scope} (hes : chkEs N sc cs args = true) :
    SE X C W ρ (.Call fe args [] p) (.blt f cs) := by
  cases fe with
  | Name y py =>
    have hg' : (decide (y = bltN f) && glB z.sc (bltN f)) = true := hg
    rw [Bool.and_eq_true, decide_eq_true_eq] at hg'
    obtain ⟨rfl, h2⟩ := hg'
    obtain ⟨h3, h4⟩ := g0.gl h2
    obtain ⟨r, hE, hV⟩ := bltOk (X := X) g1.calm f
    cases args with
    | nil =>
      cases cs with
      | nil => exact pe_false rfl (by show bltP f [] = .stuck; cases f <;> rfl)
      | cons c cs => cases hes
    | cons a as =>
      refine SE.plain rfl rfl eK fun fr hf => (hE py p a as _ (by rw [g0.hmg]; exact hm) h3 hs.t (all_star hes)).imp fun σ H Q q => ?_
      obtain ⟨e, q⟩ := q
      have Z := zM (fr := fr) (C := C) (W := W) (S := C.S ρ σ) (σ := σ) (Q := Q)
      refine ⟨e, EVts.step Z.hx Z.hs Z.hm q fun xs vs H1 s1 r1 q1 => ?_⟩
      exact hV C W (C.S ρ σ) σ fr xs vs H1 Q eK (e.ext s1).inS r1 q1
  | _ => cases hg
theorem se_isI (eK : C.K = X.K) (g0 : Good0 z X) {a : Exp} {T : String} {f l t : Expr} {p : Pos} (hf : glN z.sc "isinstance" f = true) (ht : glN z.sc (Str.ofString T) t = true) (hm : z.mg "isinstance" = none) (hT : z.mg (Str.ofString T) = none) (hv : bootBuiltins (Str.ofString T) = some (.type T)) (hn : Str.ofString T ≠ "__name__") (hd : (Str.ofString T == ("__debug__" : Str)) = false)
    (hst : isStar l = false) (ha : SE X C W ρ l a) : SE X C W ρ (.Call f [l, t] [] p) (.isI a T) := by
  cases f with
  | Name y py =>
    cases t with
    | Name y2 p2 =>
      have hf' : (decide (y = "isinstance") && glB z.sc "isinstance") = true := hf
      have ht' : (decide (y2 = Str.ofString T) && glB z.sc (Str.ofString T)) = true := ht
      rw [Bool.and_eq_true, decide_eq_true_eq] at hf' ht'
      obtain ⟨rfl, h2⟩ := hf'
      obtain ⟨rfl, h5⟩ := ht'
      obtain ⟨h3, h4⟩ := g0.gl h2
      obtain ⟨h6, h7⟩ := g0.gl h5
      have pt : PE X (.Name (Str.ofString T) p2) (tC (.ty T)) := pe_bltn h6 (by rw [g0.hmg]; exact hT) hv rfl hn hd
      have pa := pa_cons ha.t (pa_cons pt pa_nil (star_of rfl [] X.env)) (star_of hst _ X.env)
      have pst := star_plain (es := [.Name (Str.ofString T) p2]) rfl X.env p
      refine SE.plainE rfl rfl rfl eK ((pe_callB call_isi h3 (by rw [g0.hmg]; exact hm) boot_isinstance pa (by decide) h4 (star_of hst _ X.env) pst).imp fun σ H Q q => ?_)
      obtain ⟨e, q⟩ := q
      have Z := zE (C := C) (W := W) (S := C.S ρ σ) (σ := σ) (Q := Q)
      refine ⟨e, EVt.step Z.hx Z.hs Z.hm q fun x v H1 s1 r1 q1 => ?_⟩
      have q1' : EV C W (C.S ρ σ) (isIP T x) σ H1 Q := q1
      unfold isIP at q1'
      cases h1 : tyOf x with
      | none => rw [h1] at q1'; exact q1'.elim
      | some ty =>
        rw [h1] at q1'
        have q2 : EV C W (C.S ρ σ) (match kitB ty T with | some b => R.ok (PV.bl b) | none => .stuck) σ H1 Q := q1'
        cases h8 : kitB ty T with
        | none => rw [h8] at q2; exact q2.elim
        | some b =>
          rw [h8] at q2
          have tx := ty_ok r1 hid_le h1
          rw [eK] at tx
          exact ⟨v, .ty T, .type ty, .type T, b, rfl, .ty T, tx, kit_ty h8, EV.ret q2 rfl⟩
    | _ => cases ht
  | _ => cases hf
theorem lookup_mem {α β : Type} [BEq α] [LawfulBEq α] {k : α} {b : β} : ∀ {xs : List (α × β)}, xs.lookup k = some b → (k, b) ∈ xs
  | [], h => by cases h
  | (j, c) :: r, h => by
    rw [List.lookup_cons] at h
    split at h
    · rename_i e
      cases h
      rw [beq_iff_eq] at e
      subst e
      exact List.mem_cons_self
    · exact List.mem_cons_of_mem _ (lookup_mem h)
theorem se_isX (eK : C.K = X.K) (gc : GoodC z X C) (g0 : Good0 z X) {i : Nat} {x y : Str} {tab : List (Nat × Bool)} {f t : Expr} {p py : Pos} (hf : glN z.sc "isinstance" f = true) (ht : glN z.sc x t = true) (hN : z.N[i]? = some y) (hvs : visB z.sc y = true) (hk : okN y = true) (hm : z.mg "isinstance" = none) {d : Addr} (hd : z.mg x = some (.ref d))
    (htab : ∀ p ∈ tab, PySem.W.kitOne z.K (.ref (z.G.cl p.1)) (.ref d) = some p.2) : SE X C W ρ (.Call f [.Name y py, t] [] p) (.isX i x tab) := by
  unfold okN at hk
  rw [Bool.and_eq_true] at hk
  cases hx : C.xa with
  | none =>
    have no : ∀ {σ H}, ER C ρ σ H → evE (.isX i x tab) ρ = .stuck := fun {σ H} e => by
      have h := e.at_ i
      cases hs : sl ρ i with
      | ex c =>
        rw [hs] at h
        obtain ⟨a, h1, _⟩ := h
        rw [hx] at h1
        cases h1
      | _ => show (match sl ρ i with | .ex c => _ | _ => R.stuck) = .stuck; rw [hs]
    refine ⟨fun fr _ => pe_no fun σ H Q q => ?_, pe_no fun σ H Q q => ?_, fun _ => ⟨fun pins s σ H Q I q => ?_⟩⟩
    · have q2 := q.2
      rw [no q.1] at q2
      cases fr <;> exact q2
    · have q2 : EVt C W (C.S ρ σ) (evE (.isX i x tab) ρ) σ H Q := q.2
      rw [no q.1] at q2
      exact q2
    · have q2 := q.2
      rw [no q.1] at q2
      exact False.elim q2
  | some ac =>
    obtain ⟨a, c⟩ := ac
    cases f with
    | Name yf pf =>
      cases t with
      | Name y2 p2 =>
        have hf' : (decide (yf = "isinstance") && glB z.sc "isinstance") = true := hf
        have ht' : (decide (y2 = x) && glB z.sc x) = true := ht
        rw [Bool.and_eq_true, decide_eq_true_eq] at hf' ht'
        obtain ⟨rfl, h2⟩ := hf'
        obtain ⟨rfl, h5⟩ := ht'
        obtain ⟨h3, h4⟩ := g0.gl h2
        obtain ⟨h6, h7⟩ := g0.gl h5
        have pt : PE X (.Name y2 p2) (tC (.ref d)) := pe_glob h6 (by rw [g0.hmg]; exact hd) rfl h7
        have pv : PE X (.Name y py) (tVar i) := pe_var (by rw [g0.hN]; exact hN) (by rw [g0.hsc]; exact vis_of hvs) (by simpa using hk.1) (by simpa using hk.2)
        have pa := pa_cons pv (pa_cons pt pa_nil (star_of rfl [] X.env)) (star_of rfl _ X.env)
        have pst := star_plain (es := [.Name y2 p2]) rfl X.env p
        refine SE.plainE rfl rfl rfl eK ((pe_callB (gc.xc a c hx) h3 (by rw [g0.hmg]; exact hm) boot_isinstance pa (by decide) h4 (star_of rfl _ X.env) pst).imp fun σ H Q q => ?_)
        obtain ⟨e, q⟩ := q
        have q' : EV C W (C.S ρ σ) (match sl ρ i with | .ex c => (match tab.lookup c with | some b => R.ok (PV.bl b) | none => .stuck) | _ => .stuck) σ H Q := q
        have h := e.at_ i
        cases hs : sl ρ i with
        | ex c' =>
          rw [hs] at h q'
          obtain ⟨a', k1, k2⟩ := h
          rw [hx] at k1
          cases k1
          have q2 : EV C W (C.S ρ σ) (match tab.lookup c with | some b => R.ok (PV.bl b) | none => .stuck) σ H Q := q'
          cases hl : tab.lookup c with
          | none => rw [hl] at q2; exact q2.elim
          | some b =>
            rw [hl] at q2
            have hk := htab _ (lookup_mem hl)
            rw [← g0.hK] at hk
            exact ⟨_, k2, .ref d, .ref d, b, rfl, fun u r => r, hk, EV.ret q2 rfl⟩
        | _ => rw [hs] at q'; exact q'.elim
      | _ => cases ht
    | _ => cases hf

/-! ### what a loop walks -/
noncomputable def hf (top : Bool) (S : Addr → Prop) (H : Hp) : Hp := if top = true then H else hid S H
theorem hf_le {top : Bool} {S : Addr → Prop} {H : Hp} : Same (hf top S H) H := by
  cases top
  · exact hid_le
  · exact Same.refl _
theorem hid_hf {top : Bool} {S : Addr → Prop} {H : Hp} : Same (hid S H) (hf top S H) := by
  cases top
  · exact Same.refl _
  · exact hid_le
theorem hf_same {top : Bool} {S : Addr → Prop} {H H' : Hp} (e : Same H H') : Same (hf top S H) (hf top S H') := by
  cases top
  · exact hid_same e
  · exact e
def EVq (top : Bool) (C : Cfg) (W : Wh) (S : Addr → Prop) (r : R PV) (σ : L2.St) (H : Hp) (Q : VK) : Prop := match r with
  | .ok x => ∀ v H', Same H H' → RepT C.K C.G (hf top S H') (hid S H') x v → Q v H'
  | .exc c => ∀ H', Same H H' → W c σ H'
  | .stuck => False
abbrev tQ (top : Bool) (C : Cfg) (W : Wh) (ρ : Env') (r : R PV) : TE := fun σ H Q => ER C ρ σ H ∧ EVq top C W (C.S ρ σ) r σ H Q
abbrev rQ (top : Bool) (a : Exp) (ρ : Env') : R PV := if top = true then topOf a (evE a ρ) ρ else evE a ρ
theorem SE.q {e : Expr} {a : Exp} (ha : SE X C W ρ e a) (top : Bool) : PE X e (tQ top C W ρ (rQ top a ρ)) := by
  cases top with
  | true => exact ha.t
  | false => exact ha.e.imp fun σ H Q q => ⟨q.1, by
      have q2 : EVq false C W (C.S ρ σ) (evE a ρ) σ H Q := q.2
      cases h : evE a ρ with
      | ok x =>
        rw [h] at q2
        exact fun v H' s r => q2 v H' s (RepT.of r (Same.refl _))
      | exc k => rw [h] at q2; exact q2
      | stuck => rw [h] at q2; exact q2⟩
def EVi (C : Cfg) (W : Wh) (S : Addr → Prop) (top : Bool) (r : R (List PV)) (σ : L2.St) (H : Hp) (Rr : It → Hp → Prop) : Prop := match r with
  | .ok xs => ∀ J H', Same H H' → xs.length ≤ szL → IterOk C.K C.G (hf top S H') (hid S H') J xs → Rr J H'
  | .exc c => ∀ H', Same H H' → W c σ H'
  | .stuck => False
abbrev tJ (C : Cfg) (W : Wh) (ρ : Env') (top : Bool) (r : R (List PV)) : TI := fun σ H Rr => ER C ρ σ H ∧ EVi C W (C.S ρ σ) top r σ H Rr
theorem EVi.mono {S : Addr → Prop} {top : Bool} {r : R (List PV)} {σ : L2.St} {H H1 : Hp} {Rr : It → Hp → Prop} (h : EVi C W S top r σ H Rr) (e : Same H H1) : EVi C W S top r σ H1 Rr := by
  cases r with
  | ok x => exact fun v H' s q => h v H' (e.trans s) q
  | exc c => exact fun H' s => h H' (e.trans s)
  | stuck => exact h
theorem zI {S : Addr → Prop} {top : Bool} {σ : L2.St} {Rr : It → Hp → Prop} : Zc' W σ (fun r H => EVi C W S top r σ H Rr) := ⟨fun _ _ h => h, fun _ h => h, fun _ _ _ e h => h.mono e⟩
theorem EVq.step {α : Type} {top : Bool} {S : Addr → Prop} {σ : L2.St} {H : Hp} {ra : R PV} {f : PV → R α} {T : VK} {Z : R α → Hp → Prop} (hx : ∀ c H, Z (.exc c) H → ∀ H', Same H H' → W c σ H') (hs : ∀ H, ¬ Z .stuck H) (hm : ∀ r H H', Same H H' → Z r H → Z r H') (h : Z (ra.bnd f) H)
    (k : ∀ x v H1, Same H H1 → RepT C.K C.G (hf top S H1) (hid S H1) x v → Z (f x) H1 → T v H1) : EVq top C W S ra σ H T := by
  cases ra with
  | ok x => exact fun v H1 s q => k x v H1 s q (hm _ _ _ s h)
  | exc c => exact hx c H h
  | stuck => exact hs H h
theorem pi_no {tg e : Expr} {t : TI} (h : ∀ σ H Q, ¬ t σ H Q) : PI X tg e t := ⟨fun pins s σ H Q I q => absurd q (h σ H Q)⟩
theorem si_seq (eK : C.K = X.K) {tg e : Expr} {a : Exp} (top : Bool) (ha : SE X C W ρ e a) : PI X tg e (tJ C W ρ top (evI (.seq a) ρ top)) := by
  refine (L2.PI.or (pi_list (ha.q top)) (pi_tup (ha.q top))).imp fun σ H Rr q => ?_
  obtain ⟨e, q⟩ := q
  have q' : EVi C W (C.S ρ σ) top ((rQ top a ρ).bnd fun x => (match items? x with | some xs => R.ok xs | none => .stuck)) σ H Rr := q
  cases h : rQ top a ρ with
  | ok x =>
    rw [h] at q'
    have q2 : EVi C W (C.S ρ σ) top (match items? x with | some xs => R.ok xs | none => .stuck) σ H Rr := q'
    cases hi : items? x with
    | none => rw [hi] at q2; exact q2.elim
    | some xs =>
      rw [hi] at q2
      have key : ∀ (v : V) (H' : Hp), Same H H' → RepT C.K C.G (hf top (C.S ρ σ) H') (hid (C.S ρ σ) H') x v → ∃ a vs, v = .ref a ∧ (SqL C.K (hf top (C.S ρ σ) H') a vs ∨ SqT C.K (hf top (C.S ρ σ) H') a vs) ∧ xs.length ≤ szL ∧ Reps C.K C.G (hid (C.S ρ σ) H') xs vs := fun v H' s r => items_ok r hid_hf hi
      have nxt : ∀ {J : It} {H' : Hp}, Same H H' → xs.length ≤ szL → IterOk C.K C.G (hf top (C.S ρ σ) H') (hid (C.S ρ σ) H') J xs → Rr J H' := fun {J H'} s hz ok => q2 J H' s hz ok
      cases x with
      | tup ys =>
        refine .inr ⟨e, fun v H' s r => ?_⟩
        obtain ⟨adr, vs, rfl, k1, hz, k2⟩ := r
        cases hi
        have k1' : SqT C.K (hf top (C.S ρ σ) H') adr vs := Same.tup hid_hf k1
        refine ⟨adr, rfl, ⟨vs, by rw [← eK]; exact Same.tup hf_le k1'⟩, nxt s hz ?_⟩
        rw [← eK]
        exact iter_items walk_tup (fun H'' s2 => Same.tup s2 k1') k2
      | lst ys =>
        refine .inl ⟨e, fun v H' s r => ?_⟩
        obtain ⟨adr, vs, rfl, k1, hz, k2⟩ := r
        cases hi
        have k1' : SqL C.K (hf top (C.S ρ σ) H') adr vs := SqL.of k1
        refine ⟨adr, rfl, ⟨vs, by rw [← eK]; exact hf_le.seq k1'⟩, nxt s hz ?_⟩
        rw [← eK]
        exact iter_items walk_list (fun H'' s2 => s2.seq k1') k2
      | lsk ys =>
        refine .inl ⟨e, fun v H' s r => ?_⟩
        obtain ⟨adr, vs, rfl, k1, hz, k2⟩ := r
        cases hi
        have k1' : SqL C.K (hf top (C.S ρ σ) H') adr vs := hid_hf.seq k1
        refine ⟨adr, rfl, ⟨vs, by rw [← eK]; exact hf_le.seq k1'⟩, nxt s hz ?_⟩
        rw [← eK]
        exact iter_items walk_list (fun H'' s2 => s2.seq k1') k2
      | _ => cases hi
  | exc k =>
    rw [h] at q'
    exact .inl ⟨e, q'⟩
  | stuck =>
    rw [h] at q'
    exact q'.elim
theorem i62_ok {j : Int} (h : i62 j = true) : -(2 ^ 62) ≤ j ∧ j < 2 ^ 62 := by
  unfold i62 at h
  have h1 := of_decide_eq_true h
  constructor <;> omega
theorem iter_r (hz : True) {Hf Hd : Hp} {K : PySem.W.Frag} {G : Gx} {lo : Int} {n : Nat} : IterOk K G Hf Hd (Itr lo n) (rangeP lo n) := iter_range
theorem si_r1 (g0 : Good0 z X) {tg x : Expr} {a : Exp} {p p2 : Pos} (top : Bool) (hg : glB z.sc "range" = true) (hm : z.mg "range" = none) (st : isStar x = false) (ha : SE X C W ρ x a) : PI X tg (.Call (.Name "range" p2) [x] [] p) (tJ C W ρ top (evI (.r1 a) ρ top)) := by
  obtain ⟨h3, _⟩ := g0.gl hg
  refine (pi_range1 h3 (by rw [g0.hmg]; exact hm) (pa_cons ha.e pa_nil (star_of st _ X.env)) (by rw [star_of st]; rfl)).imp fun σ H Rr q => ?_
  obtain ⟨e, q⟩ := q
  have Z := zI (C := C) (W := W) (S := C.S ρ σ) (σ := σ) (top := top) (Rr := Rr)
  refine ⟨e, EV.step Z.hx Z.hs Z.hm q fun x v H1 s1 r1 q1 => ?_⟩
  cases x with
  | int n =>
    have q2 : EVi C W (C.S ρ σ) top (if i62 n = true ∧ n.toNat ≤ szL then R.ok (rangeP 0 n.toNat) else .stuck) σ H1 Rr := q1
    by_cases h : i62 n = true ∧ n.toNat ≤ szL
    · rw [if_pos h] at q2
      have e1 : v = .int n := r1
      obtain ⟨k1, k2⟩ := i62_ok h.1
      subst e1
      exact ⟨n, rfl, k1, k2, q2 _ H1 (Same.refl _) (by rw [rangeP_len]; exact h.2) iter_range⟩
    · rw [if_neg h] at q2
      exact q2.elim
  | _ => exact False.elim q1
theorem si_r2 (g0 : Good0 z X) {tg x y : Expr} {a b : Exp} {p p2 : Pos} (top : Bool) (hg : glB z.sc "range" = true) (hm : z.mg "range" = none) (st : isStar x = false) (st2 : isStar y = false) (ha : SE X C W ρ x a) (hb : SE X C W ρ y b) : PI X tg (.Call (.Name "range" p2) [x, y] [] p) (tJ C W ρ top (evI (.r2 a b) ρ top)) := by
  obtain ⟨h3, _⟩ := g0.gl hg
  refine (pi_range2 h3 (by rw [g0.hmg]; exact hm) (pa_cons ha.e (pa_cons hb.e pa_nil (star_of st2 _ X.env)) (star_of st _ X.env)) (by rw [star_of st, star_of st2]; rfl) (by rw [star_of st2]; rfl)).imp fun σ H Rr q => ?_
  obtain ⟨e, q⟩ := q
  have Z := zI (C := C) (W := W) (S := C.S ρ σ) (σ := σ) (top := top) (Rr := Rr)
  refine ⟨e, EV.step Z.hx Z.hs Z.hm q fun x v H1 s1 r1 q1 => ⟨e.ext s1, EV.step Z.hx Z.hs Z.hm q1 fun y w H2 s2 r2 q2 => ?_⟩⟩
  cases x with
  | int m =>
    cases y with
    | int n =>
      have q3 : EVi C W (C.S ρ σ) top (if i62 m = true ∧ i62 n = true ∧ (n - m).toNat ≤ szL then R.ok (rangeP m (n - m).toNat) else .stuck) σ H2 Rr := q2
      by_cases h : i62 m = true ∧ i62 n = true ∧ (n - m).toNat ≤ szL
      · rw [if_pos h] at q3
        have e1 : v = .int m := r1
        have e2 : w = .int n := r2
        obtain ⟨k1, k2⟩ := i62_ok h.1
        obtain ⟨k3, k4⟩ := i62_ok h.2.1
        subst e1 e2
        exact ⟨m, n, rfl, ⟨k1, k2, k3, k4⟩, q3 _ H2 (Same.refl _) (by rw [rangeP_len]; exact h.2.2) iter_range⟩
      · rw [if_neg h] at q3
        exact q3.elim
    | _ => exact False.elim q2
  | _ =>
    have q3 := q2
    cases y <;> exact False.elim q3
theorem si_enum (eK : C.K = X.K) (g0 : Good0 z X) {tg x : Expr} {a : Exp} {p p2 : Pos} (top : Bool) (ht : isTp tg = true) (hg : glB z.sc "enumerate" = true) (hm : z.mg "enumerate" = none) (st : isStar x = false) (ha : SE X C W ρ x a) : PI X tg (.Call (.Name "enumerate" p2) [x] [] p) (tJ C W ρ top (evI (.enum a) ρ top)) := by
  obtain ⟨h3, _⟩ := g0.gl hg
  cases tg with
  | Tuple es k pt =>
    refine (pi_enum h3 (by rw [g0.hmg]; exact hm) (pa_cons (ha.q top) pa_nil (star_of st _ X.env)) (by rw [star_of st]; rfl)).imp fun σ H Rr q => ?_
    obtain ⟨e, q⟩ := q
    have Z := zI (C := C) (W := W) (S := C.S ρ σ) (σ := σ) (top := top) (Rr := Rr)
    refine ⟨e, EVq.step Z.hx Z.hs Z.hm q fun x v H1 s1 r1 q1 => ?_⟩
    have q2 : EVi C W (C.S ρ σ) top (match lits? x with | some xs => R.ok (enumP 0 xs) | none => .stuck) σ H1 Rr := q1
    cases hi : lits? x with
    | none => rw [hi] at q2; exact q2.elim
    | some xs =>
      rw [hi] at q2
      obtain ⟨adr, vs, rfl, k1, hz, k2⟩ := lits_ok r1 hid_hf hi
      refine ⟨adr, vs, rfl, by rw [← eK]; exact hf_le.seq k1, q2 _ H1 (Same.refl _) (by rw [enumP_len]; exact hz) ?_⟩
      rw [← eK]
      refine iter_pairs (n := vs.length) walk_enum (fun H'' s2 => s2.seq k1) (by rw [enumP_len, k2.len]) fun i v u hi' e1 e2 => ?_
      obtain ⟨y, k3, k4⟩ := k2.get' e2
      cases e1
      refine ⟨_, y, by have := enumP_get 0 xs i y k3; rw [this], by rw [Nat.zero_add]; rfl, k4⟩
  | _ => cases ht
theorem si_zip (eK : C.K = X.K) (g0 : Good0 z X) {tg x y : Expr} {a b : Exp} {p p2 : Pos} (top : Bool) (ht : isTp tg = true) (hg : glB z.sc "zip" = true) (hm : z.mg "zip" = none) (st : isStar x = false) (st2 : isStar y = false) (ha : SE X C W ρ x a) (hb : SE X C W ρ y b) : PI X tg (.Call (.Name "zip" p2) [x, y] [] p) (tJ C W ρ top (evI (.zip a b) ρ top)) := by
  obtain ⟨h3, _⟩ := g0.gl hg
  cases tg with
  | Tuple es k pt =>
    refine (RZ.pi_zipA h3 (by rw [g0.hmg]; exact hm) (pa_cons (ha.q top) (pa_cons (hb.q top) pa_nil (star_of st2 _ X.env)) (star_of st _ X.env)) (star_of st _ X.env) (by rw [star_of st2]; rfl)).imp fun σ H Rr q => ?_
    obtain ⟨e, q⟩ := q
    have Z := zI (C := C) (W := W) (S := C.S ρ σ) (σ := σ) (top := top) (Rr := Rr)
    refine ⟨e, EVq.step Z.hx Z.hs Z.hm q fun x v H1 s1 r1 q1 => ⟨e.ext s1, EVq.step Z.hx Z.hs Z.hm q1 fun y w H2 s2 r2 q2 => ?_⟩⟩
    have r1' := r1.mono (hf_same (top := top) (S := C.S ρ σ) s2) (hid_same (S := C.S ρ σ) s2)
    have fin : ∀ {J : It} {xs ys : List PV} {vs ws : List V} {Gp : Hp → Prop}, Walk J (min vs.length ws.length) Gp (YPair (fun i => vs[i]?) (fun i => ws[i]?)) → (∀ H', Same (hf top (C.S ρ σ) H2) H' → Gp H') → xs.length ≤ szL → Reps C.K C.G (hid (C.S ρ σ) H2) xs vs → Reps C.K C.G (hid (C.S ρ σ) H2) ys ws →
        EVi C W (C.S ρ σ) top (.ok (zipP xs ys)) σ H2 Rr → Rr J H2 := fun {J xs ys vs ws Gp} w hG hz k1 k2 q3 => by
      refine q3 _ H2 (Same.refl _) (by rw [zipP_len]; omega) (iter_pairs w hG (by rw [zipP_len, k1.len, k2.len]) fun i v u hi' e1 e2 => ?_)
      obtain ⟨y1, k3, k4⟩ := k1.get' e1
      obtain ⟨y2, k5, k6⟩ := k2.get' e2
      exact ⟨y1, y2, zipP_get _ _ _ _ _ k3 k5, k4, k6⟩
    have q2' : EVi C W (C.S ρ σ) top (match (generalizing := false) x, y with | .tup xs, .tup ys => R.ok (zipP xs ys) | x, y => (match lits? x, lits? y with | some xs, some ys => R.ok (zipP xs ys) | _, _ => .stuck)) σ H2 Rr := q2
    by_cases hl : ∃ xs ys, lits? x = some xs ∧ lits? y = some ys
    · obtain ⟨xs, ys, l1, l2⟩ := hl
      have q3 : EVi C W (C.S ρ σ) top (.ok (zipP xs ys)) σ H2 Rr := by
        cases x <;> first | cases l1 | skip
        all_goals (cases y <;> first | cases l2 | skip)
        all_goals exact q2'
      obtain ⟨a1, vs, rfl, k1, z1, k2⟩ := lits_ok r1' hid_hf l1
      obtain ⟨a2, ws, rfl, k3, z2, k4⟩ := lits_ok r2 hid_hf l2
      refine ⟨a1, a2, vs, ws, rfl, .inl ⟨by rw [← eK]; exact hf_le.seq k1, by rw [← eK]; exact hf_le.seq k3, ?_⟩⟩
      rw [← eK]
      exact fin (walk_zip rfl) (fun H' s => ⟨s.seq k1, s.seq k3⟩) z1 k2 k4 q3
    · by_cases ht' : ∃ xs ys, x = .tup xs ∧ y = .tup ys
      · obtain ⟨xs, ys, rfl, rfl⟩ := ht'
        obtain ⟨a1, vs, rfl, k1, z1, k2⟩ := r1'
        obtain ⟨a2, ws, rfl, k3, z2, k4⟩ := r2
        have k1' := Same.tup (hid_hf (top := top)) k1
        have k3' := Same.tup (hid_hf (top := top)) k3
        refine ⟨a1, a2, vs, ws, rfl, .inr ⟨by rw [← eK]; exact Same.tup hf_le k1', by rw [← eK]; exact Same.tup hf_le k3', ?_⟩⟩
        rw [← eK]
        exact fin (walk_zipT rfl) (fun H' s => ⟨Same.tup s k1', Same.tup s k3'⟩) z1 k2 k4 q2'
      · exfalso
        cases x <;> cases y <;> first | exact q2' | exact ht' ⟨_, _, rfl, rfl⟩ | exact hl ⟨_, _, rfl, rfl⟩
  | _ => cases ht
theorem si_rev (eK : C.K = X.K) (g0 : Good0 z X) {tg x : Expr} {a : Exp} {p p2 : Pos} (top : Bool) (hg : glB z.sc "reversed" = true) (hm : z.mg "reversed" = none) (st : isStar x = false) (ha : SE X C W ρ x a) : PI X tg (.Call (.Name "reversed" p2) [x] [] p) (tJ C W ρ top (evI (.rev a) ρ top)) := by
  obtain ⟨h3, _⟩ := g0.gl hg
  refine (RT.pi_revA h3 (by rw [g0.hmg]; exact hm) (ha.q top) (star_of st _ X.env)).imp fun σ H Rr q => ?_
  obtain ⟨e, q⟩ := q
  have Z := zI (C := C) (W := W) (S := C.S ρ σ) (σ := σ) (top := top) (Rr := Rr)
  refine ⟨e, EVq.step Z.hx Z.hs Z.hm q fun x v H1 s1 r1 q1 => ?_⟩
  have q2 : EVi C W (C.S ρ σ) top (match items? x with | some xs => R.ok xs.reverse | none => .stuck) σ H1 Rr := q1
  cases hi : items? x with
  | none => rw [hi] at q2; exact q2.elim
  | some xs =>
    rw [hi] at q2
    obtain ⟨adr, vs, rfl, k1, hz, k2⟩ := items_ok r1 hid_hf hi
    have nxt := fun J ok => q2 J H1 (Same.refl _) (by rw [List.length_reverse]; exact hz) ok
    rcases k1 with k1 | k1
    · refine ⟨adr, vs, rfl, .inl ⟨by rw [← eK]; exact hf_le.seq k1, nxt _ ?_⟩⟩
      rw [← eK]
      exact iter_rev walk_rev (fun H' s => s.seq k1) k2
    · refine ⟨adr, vs, rfl, .inr ⟨by rw [← eK]; exact Same.tup hf_le k1, nxt _ ?_⟩⟩
      rw [← eK]
      exact iter_rev walk_revT (fun H' s => Same.tup s k1) k2
end
end MP

/-! MP, part 9: comprehensions; every expression keeps its meaning. -/
namespace MP
open PySem PySem.Spec PyProof.Rows L2

/-! ### slots wiped -/
theorem wipe'_len (ρ : Env') : ∀ vs, (wipe' ρ vs).length = ρ.length
  | [] => rfl
  | v :: vs => by
    show ((wipe' ρ vs).set v .un).length = _
    rw [List.length_set, wipe'_len ρ vs]
theorem wipe'_out {ρ : Env'} {i : Nat} : ∀ {vs : List Nat}, i ∉ vs → sl (wipe' ρ vs) i = sl ρ i
  | [], _ => rfl
  | v :: vs, h => by
    have h1 : v ≠ i := fun e => h (by rw [e]; exact List.mem_cons_self)
    have h2 : i ∉ vs := fun q => h (List.mem_cons_of_mem _ q)
    show sl ((wipe' ρ vs).set v .un) i = _
    rw [sl_set_ne h1, wipe'_out h2]
theorem wipe'_in {ρ : Env'} {i : Nat} : ∀ {vs : List Nat}, i ∈ vs → sl (wipe' ρ vs) i = .un
  | [], h => by cases h
  | v :: vs, h => by
    show sl ((wipe' ρ vs).set v .un) i = _
    by_cases e : v = i
    · subst e
      by_cases hl : v < (wipe' ρ vs).length
      · exact sl_set_eq hl
      · rw [set_self (by omega)]
        exact sl_out (by omega)
    · rw [sl_set_ne e]
      rcases List.mem_cons.mp h with h | h
      · exact absurd h.symm e
      · exact wipe'_in h
theorem wipe_out {σ : L2.St} {i : Nat} : ∀ {vs : List Nat}, i ∉ vs → (wipe σ vs)[i]? = σ[i]?
  | [], _ => rfl
  | v :: vs, h => by
    have h1 : v ≠ i := fun e => h (by rw [e]; exact List.mem_cons_self)
    have h2 : i ∉ vs := fun q => h (List.mem_cons_of_mem _ q)
    show ((wipe σ vs).set v none)[i]? = _
    rw [List.getElem?_set_ne h1, wipe_out h2]
theorem wipe_in {σ : L2.St} {i : Nat} : ∀ {vs : List Nat}, i ∈ vs → i < σ.length → (wipe σ vs)[i]? = some none
  | [], h, _ => by cases h
  | v :: vs, h, hl => by
    show ((wipe σ vs).set v none)[i]? = _
    by_cases e : v = i
    · subst e
      exact List.getElem?_set_self (by rw [wipe_length]; exact hl)
    · rw [List.getElem?_set_ne e]
      rcases List.mem_cons.mp h with h | h
      · exact absurd h.symm e
      · exact wipe_in h hl
theorem wipe_eq {σ σ1 : L2.St} {vs : List Nat} (hl : σ1.length = σ.length) (h : ∀ j, j ∉ vs → σ1[j]? = σ[j]?) : wipe σ1 vs = wipe σ vs := by
  refine List.ext_getElem? fun j => ?_
  by_cases hj : j ∈ vs
  · by_cases hl' : j < σ.length
    · rw [wipe_in hj hl', wipe_in hj (by omega)]
    · rw [List.getElem?_eq_none (by rw [wipe_length]; omega), List.getElem?_eq_none (by rw [wipe_length]; omega)]
  · rw [wipe_out hj, wipe_out hj, h j hj]
theorem setN_sl {j : Nat} : ∀ {is : List Nat} {xs : List PV} {ρ ρ1 : Env'}, setN is xs ρ = some ρ1 → j ∉ is → sl ρ1 j = sl ρ j ∧ ρ1.length = ρ.length
  | [], [], ρ, ρ1, h, _ => by cases h; exact ⟨rfl, rfl⟩
  | [], _ :: _, _, _, h, _ => by cases h
  | _ :: _, [], _, _, h, _ => by cases h
  | i :: is, x :: xs, ρ, ρ1, h, hj => by
    have h1 : i ≠ j := fun e => hj (by rw [e]; exact List.mem_cons_self)
    have h2 : j ∉ is := fun q => hj (List.mem_cons_of_mem _ q)
    obtain ⟨k1, k2⟩ := setN_sl (show setN is xs (ρ.set i (.fr x)) = some ρ1 from h) h2
    exact ⟨by rw [k1, sl_set_ne h1], by rw [k2, List.length_set]⟩
theorem bindT_sl {tg : Tgt} {x : PV} {ρ ρ1 : Env'} {j : Nat} (h : bindT tg x ρ = some ρ1) (hj : j ∉ slotsT tg) : sl ρ1 j = sl ρ j := by
  cases tg with
  | nm i =>
    cases h
    have h1 : i ≠ j := fun e => hj (by rw [e]; exact List.mem_cons_self)
    exact sl_set_ne h1
  | tp is =>
    cases x with
    | tup xs => exact (setN_sl h hj).1
    | lst xs => exact (setN_sl h hj).1
    | lsk xs => exact (setN_sl h hj).1
    | _ => cases h
theorem free_at {ρ : Env'} {vs : List Nat} (h : freeB ρ vs = true) {i : Nat} (hi : isOwn (sl ρ i)) : i ∉ vs := fun q => by
  unfold freeB at h
  have h1 := List.all_eq_true.mp h i q
  cases e : sl ρ i with
  | ow xs => rw [e] at h1; cases h1
  | oo c nf xs => rw [e] at h1; cases h1
  | _ => rw [e] at hi; exact hi.elim
abbrev Cfg.inn (C : Cfg) (D : Addr) : Cfg := { C with B := fun a => C.B a ∨ a = D, xa := none }
section
variable {C : Cfg} {ρ : Env'} {σ : L2.St} {vs : List Nat}
theorem own_wipe (fb : freeB ρ vs = true) (a : Addr) : own (wipe' ρ vs) (wipe σ vs) a ↔ own ρ σ a := by
  constructor
  · rintro ⟨i, h1, h2⟩
    by_cases hi : i ∈ vs
    · rw [wipe'_in hi] at h1
      exact h1.elim
    · rw [wipe'_out hi] at h1
      rw [wipe_out hi] at h2
      exact ⟨i, h1, h2⟩
  · rintro ⟨i, h1, h2⟩
    have hi := free_at fb h1
    exact ⟨i, by rw [wipe'_out hi]; exact h1, by rw [wipe_out hi]; exact h2⟩
theorem inn_S {D : Addr} (fb : freeB ρ vs = true) (a : Addr) : (C.inn D).S (wipe' ρ vs) (wipe σ vs) a ↔ (C.S ρ σ a ∨ a = D) := by
  constructor
  · rintro ((h | h) | h)
    · exact .inl (.inl h)
    · exact .inr h
    · exact .inl (.inr ((own_wipe fb a).mp h))
  · rintro ((h | h) | h)
    · exact .inl (.inl h)
    · exact .inr ((own_wipe fb a).mpr h)
    · exact .inl (.inr h)
theorem ER.inner {H1 H' : Hp} {D : Addr} {o : HO} (e : ER C ρ σ H1) (hx : C.xa = none) (fb : freeB ρ vs = true) (nD : H1 D = none) (s : Same H1 H') (hD : H' D = some o) : ER (C.inn D) (wipe' ρ vs) (wipe σ vs) H' := by
  have sm : Same (hid (C.S ρ σ) H1) (hid ((C.inn D).S (wipe' ρ vs) (wipe σ vs)) H') := fun a o q => by
    obtain ⟨q1, q2⟩ := hid_some.mp q
    refine hid_some.mpr ⟨fun z => ?_, s _ _ q2⟩
    rcases (inn_S fb a).mp z with z | z
    · exact q1 z
    · exact ne_of_none q2 nD z
  refine ⟨by rw [wipe'_len, wipe_length]; exact e.len, fun i => ?_, fun i j a h1 h2 => ?_, e.le0.trans s, fun a z => ?_⟩
  · by_cases hi : i ∈ vs
    · rw [wipe'_in hi]
      exact trivial
    · rw [wipe'_out hi, wipe_out hi]
      cases hs : sl ρ i with
      | un => exact trivial
      | fr x =>
        obtain ⟨w, h1, h2⟩ := e.fr hs
        exact ⟨w, h1, Rep.mono sm _ _ h2⟩
      | ow xs =>
        obtain ⟨a, ws, h1, h2, h3, h4, h5, h6⟩ := e.ow hs
        exact ⟨a, ws, h1, s _ _ h2, fun z => z.elim h3 (fun e => ne_of_none h2 nD e), h4, h5, Reps.mono sm _ _ h6⟩
      | oo c nf xs =>
        obtain ⟨a, dx, ws, h1, h2, h3, h4, h5, h6⟩ := e.oo hs
        exact ⟨a, dx, ws, h1, s _ _ h2, fun z => z.elim h3 (fun e => ne_of_none h2 nD e), h4, h5, Reps.mono sm _ _ h6⟩
      | ex c =>
        have h := e.at_ i
        rw [hs] at h
        obtain ⟨a, h1, _⟩ := h
        rw [hx] at h1
        cases h1
  · have back : ∀ {i}, ownAt (wipe' ρ vs) (wipe σ vs) i a → ownAt ρ σ i a := fun {i} h => by
      by_cases hi : i ∈ vs
      · have := h.1
        rw [wipe'_in hi] at this
        exact this.elim
      · obtain ⟨k1, k2⟩ := h
        rw [wipe'_out hi] at k1
        rw [wipe_out hi] at k2
        exact ⟨k1, k2⟩
    exact e.nd i j a (back h1) (back h2)
  · rcases z with z | z
    · obtain ⟨o, q⟩ := e.bin a z
      exact ⟨o, s _ _ q⟩
    · subst z
      exact ⟨_, hD⟩
end
theorem mapC_exc {f : PV → R (Option PV)} {c : Nat} : ∀ {xs : List PV}, mapC f xs ≠ .exc c
  | [] => fun h => by cases h
  | x :: xs => fun h => by
    unfold mapC at h
    split at h
    · split at h <;> cases h
    · exact mapC_exc h
    · cases h
theorem EVm.new' {C : Cfg} {W : Wh} {S : Addr → Prop} {σ : L2.St} {H H' : Hp} {Q : VK} {fr : Bool} {xs : List PV} {vs : List V} {p : Addr} (h : EVm fr C W S (.ok (.lst xs)) σ H Q) (hS : ∀ a, S a → ∃ o, H a = some o) (np : H p = none) (s : Same H H') (hp : H' p = some (.lst vs)) (hz : xs.length ≤ szL)
    (r : Reps C.K C.G (hid (fun a => S a ∨ a = p) H') xs vs) : Q (.ref p) H' := by
  have nS : ¬ S p := fun z => by
    obtain ⟨o, q⟩ := hS p z
    rw [np] at q
    cases q
  cases fr with
  | false => exact h (.ref p) _ s ⟨p, vs, rfl, hid_some.mpr ⟨nS, hp⟩, hz, Reps.mono (hid_sub fun a z => .inl z) _ _ r⟩
  | true => exact h p vs _ s np hp hz r

/-! ### a comprehension -/
abbrev W0 : Wh := fun _ _ _ => False
section
variable {z : Cz} {X : Cx} {W : Wh} {C : Cfg} {ρ : Env'}
theorem se_comp (eK : C.K = X.K) (hc : X.calm = true) (hN : X.N.Nodup) (hx : C.xa = none) {elt cond : Exp} {tg : Tgt} {it : Itx} {own' : List (Str × Nat)} {x t i : Expr} {ifs : List Expr} {scope : Scope} {p : Pos} (ok : BlkOk X.N X.env.scope scope own') (hset : ∀ x, foldedSetIterable i X.env x = pure x)
    (sub : ∀ j, j ∈ slotsT tg → j ∈ own'.map (·.2)) (hi : PI X t i (tJ C W ρ true (evI it ρ true)))
    (hg : ∀ (s : Shared) (H : Hp) (c : Addr) (cl : List (Str × Addr)) (fp : List Addr) (q : Addr × PV), PG (X.blk s H scope (compEnvC scope cl c X.env) fp) t (tG (C.inn q.1) (wipe' ρ (own'.map (·.2))) tg q.2))
    (ht : ∀ (s : Shared) (H : Hp) (c : Addr) (cl : List (Str × Addr)) (fp : List Addr) (q : Addr × Env'), PTs (X.blk s H scope (compEnvC scope cl c X.env) fp) ifs (tTb (C.inn q.1) W0 q.2 (if isOmit cond then .ok true else (evE cond q.2).bnd truR)))
    (he : ∀ (s : Shared) (H : Hp) (c : Addr) (cl : List (Str × Addr)) (fp : List Addr) (q : Addr × Env'), PE (X.blk s H scope (compEnvC scope cl c X.env) fp) x (tE (C.inn q.1) W0 q.2 (evE elt q.2))) :
    ∀ fr, PE X (.ListComp x [⟨t, i, ifs, 0⟩] scope p) (tM fr C W ρ (evE (.comp elt cond tg it own') ρ)) ∧
      ∃ (g : TG) (tt : TT) (te : TE), (∀ (s : Shared) (H : Hp) (c : Addr) (cl : List (Str × Addr)) (fp : List Addr), PG (X.blk s H scope (compEnvC scope cl c X.env) fp) t g) ∧ (∀ (s : Shared) (H : Hp) (c : Addr) (cl : List (Str × Addr)) (fp : List Addr), PTs (X.blk s H scope (compEnvC scope cl c X.env) fp) ifs tt) ∧
        (∀ (s : Shared) (H : Hp) (c : Addr) (cl : List (Str × Addr)) (fp : List Addr), PE (X.blk s H scope (compEnvC scope cl c X.env) fp) x te) ∧ ∀ σ H Q, tM fr C W ρ (evE (.comp elt cond tg it own') ρ) σ H Q → tLc (tJ C W ρ true (evI it ρ true)) g tt te (own'.map (·.2)) σ H Q := fun fr => by
  have key : ∃ (g : TG) (tt : TT) (te : TE), (∀ (s : Shared) (H : Hp) (c : Addr) (cl : List (Str × Addr)) (fp : List Addr), PG (X.blk s H scope (compEnvC scope cl c X.env) fp) t g) ∧ (∀ (s : Shared) (H : Hp) (c : Addr) (cl : List (Str × Addr)) (fp : List Addr), PTs (X.blk s H scope (compEnvC scope cl c X.env) fp) ifs tt) ∧
        (∀ (s : Shared) (H : Hp) (c : Addr) (cl : List (Str × Addr)) (fp : List Addr), PE (X.blk s H scope (compEnvC scope cl c X.env) fp) x te) ∧ ∀ σ H Q, tM fr C W ρ (evE (.comp elt cond tg it own') ρ) σ H Q → tLc (tJ C W ρ true (evI it ρ true)) g tt te (own'.map (·.2)) σ H Q := by
    refine ⟨_, _, _, fun s H c cl fp => PG.ex (hg s H c cl fp), fun s H c cl fp => PTs.ex (ht s H c cl fp), fun s H c cl fp => PE.ex (he s H c cl fp), fun σ H Q q => ?_⟩
    generalize hvs : own'.map (·.2) = vs at *
    obtain ⟨e, q⟩ := q
    refine ⟨e, ?_⟩
    have q0 : EVm fr C W (C.S ρ σ) (if freeB ρ vs = true then ((evI it ρ true).bnd fun xs => (mapC (fun x => match bindT tg x (wipe' ρ vs) with
      | none => .stuck
      | some ρ1 => (if isOmit cond then .ok true else (evE cond ρ1).bnd truR).bnd fun k => if k = true then (evE elt ρ1).bnd fun y => .ok (some y) else .ok none) xs).bnd fun ys => .ok (.lst ys)) else .stuck) σ H Q := by
      subst hvs
      exact q
    by_cases fb : freeB ρ vs = true
    · rw [if_pos fb] at q0
      cases hit : evI it ρ true with
      | stuck => rw [hit] at q0; exact q0.no
      | exc c => rw [hit] at q0; cases fr <;> exact q0
      | ok xs =>
        rw [hit] at q0
        generalize hf : (fun x => match bindT tg x (wipe' ρ vs) with
          | none => .stuck
          | some ρ1 => (if isOmit cond then .ok true else (evE cond ρ1).bnd truR).bnd fun k => if k = true then (evE elt ρ1).bnd fun y => .ok (some y) else .ok none : PV → R (Option PV)) = f at q0
        have q1 : EVm fr C W (C.S ρ σ) ((mapC f xs).bnd fun ys => .ok (.lst ys)) σ H Q := q0
        cases hm : mapC f xs with
        | stuck => rw [hm] at q1; exact q1.no
        | exc c => exact absurd hm mapC_exc
        | ok ys =>
          rw [hm] at q1
          have q2 : EVm fr C W (C.S ρ σ) (.ok (.lst ys)) σ H Q := q1
          intro J H1 s1 hz okJ D nD
          obtain ⟨Gp, Y, w, hG, hY⟩ := okJ
          have e1 := e.ext s1
          have sD : ∀ {H'}, Same H1 H' → Same (hid (C.S ρ σ) H1) (hid (fun a => C.S ρ σ a ∨ a = D) H') := fun {H'} s a o q => by
            obtain ⟨q1, q2⟩ := hid_some.mp q
            exact hid_some.mpr ⟨fun z => z.elim q1 (fun e => ne_of_none q2 nD e), s _ _ q2⟩
          have sU : ∀ {H' : Hp} {o : HO}, Same H1 H' → Same H1 (upd H' D o) := fun {H' o} s a ob q => by
            rw [upd_ne (ne_of_none q nD)]
            exact s _ _ q
          refine lc_it (g := fun v σ H Q => ∃ i : Addr × PV, tG (C.inn i.1) (wipe' ρ vs) tg i.2 v σ H Q) (tt := fun σ H Q => ∃ i : Addr × Env', tTb (C.inn i.1) W0 i.2 (if isOmit cond then .ok true else (evE cond i.2).bnd truR) σ H Q) (te := fun σ H Q => ∃ i : Addr × Env', tE (C.inn i.1) W0 i.2 (evE elt i.2) σ H Q) (vs := vs) (σ := σ) (H1 := H1) (D := D) (Qd := fun H => Q (.ref D) H) w (fun i H' => Same H1 H' ∧ ∃ ys0 rest vs0, mapC f (xs.drop i) = .ok rest ∧ ys = ys0 ++ rest ∧ H' D = some (.lst vs0) ∧ ys0.length ≤ i ∧ Reps C.K C.G (hid (fun a => C.S ρ σ a ∨ a = D) H') ys0 vs0) ?_ ?_ ?_ ?_
          · exact ⟨sU (Same.refl _), [], ys, [], hm, rfl, upd_same, Nat.zero_le _, rfl⟩
          · rintro i H' _ ⟨s, _⟩
            exact hG H' s
          · rintro i v H2 H3 hi ⟨s2, ys0, rest, vs0, m1, m2, m3, m4, m5⟩ y
            obtain ⟨s3, px, x1, x2⟩ := hY i H2 v H3 (fun a => C.S ρ σ a ∨ a = D) hi y (fun a z => by
              rcases z with z | z
              · exact (e1.ext s2).inS a z
              · subst z
                exact ⟨_, m3⟩) (sD s2)
            have hd : xs.drop i = px :: xs.drop (i + 1) := by
              obtain ⟨hlt, h1⟩ := List.getElem?_eq_some_iff.mp x1
              rw [← h1]
              exact List.drop_eq_getElem_cons hlt
            rw [hd] at m1
            have fx : f px = (match bindT tg px (wipe' ρ vs) with
              | none => .stuck
              | some ρ1 => (if isOmit cond then .ok true else (evE cond ρ1).bnd truR).bnd fun k => if k = true then (evE elt ρ1).bnd fun y => .ok (some y) else .ok none) := by rw [← hf]
            have m1' : (match f px with
              | .ok (some y) => (match mapC f (xs.drop (i + 1)) with
                | .ok ys => .ok (y :: ys)
                | _ => .stuck)
              | .ok none => mapC f (xs.drop (i + 1))
              | _ => .stuck) = R.ok rest := m1
            have S3 : Same H1 H3 := s2.trans s3
            have D3 := s3 _ _ m3
            have ei := e1.inner (vs := vs) hx fb nD S3 D3
            have rv : Rep C.K C.G (hid ((C.inn D).S (wipe' ρ vs) (wipe σ vs)) H3) px v := Rep.mono (hid_sub fun a z => (inn_S fb a).mp z) _ _ x2
            cases hb : bindT tg px (wipe' ρ vs) with
            | none => rw [fx, hb] at m1'; cases m1'
            | some ρ1 =>
              rw [hb] at fx
              have fx1 : f px = ((if isOmit cond then R.ok true else (evE cond ρ1).bnd truR).bnd fun k => if k = true then (evE elt ρ1).bnd fun y => .ok (some y) else .ok none) := fx
              refine ⟨(D, px), ei, rv, ?_⟩
              rw [hb]
              intro σ1 eσ off osub
              have offv : ∀ j, j ∉ vs → σ1[j]? = (wipe σ vs)[j]? := fun j hj => off j fun q => hj (sub j q)
              have len1 : σ1.length = σ.length := by
                rw [← eσ.len, ← e.len]
                have hl : ∀ {tg : Tgt} {x : PV} {ρ ρ1 : Env'}, bindT tg x ρ = some ρ1 → ρ1.length = ρ.length := fun {tg x ρ ρ1} h => by
                  have hN : ∀ {is : List Nat} {xs : List PV} {ρ ρ1 : Env'}, setN is xs ρ = some ρ1 → ρ1.length = ρ.length := fun {is} => by
                    induction is with
                    | nil => intro xs ρ ρ1 h; cases xs <;> cases h; rfl
                    | cons i is ih =>
                      intro xs ρ ρ1 h
                      cases xs with
                      | nil => cases h
                      | cons x xs =>
                        have := ih (show setN is xs (ρ.set i (.fr x)) = some ρ1 from h)
                        rw [this, List.length_set]
                  cases tg with
                  | nm i => cases h; exact List.length_set
                  | tp is => cases x <;> first | exact hN h | cases h
                rw [hl hb, wipe'_len]
              refine ⟨wipe_eq len1 fun j hj => by rw [offv j hj, wipe_out hj], (D, ρ1), eσ, ?_⟩
              have back : ∀ a, (C.S ρ σ a ∨ a = D) → (C.inn D).S ρ1 σ1 a := fun a z => by
                rcases z with (z | ⟨j, z1, z2⟩) | z
                · exact .inl (.inl z)
                · have hj := free_at fb z1
                  refine .inr ⟨j, ?_, ?_⟩
                  · rw [bindT_sl hb fun q => hj (sub j q), wipe'_out hj]
                    exact z1
                  · rw [offv j hj, wipe_out hj]
                    exact z2
                · exact .inl (.inr z)
              cases hk : (if isOmit cond then R.ok true else (evE cond ρ1).bnd truR) with
              | stuck => rw [fx1, hk] at m1'; cases m1'
              | exc c => rw [fx1, hk] at m1'; cases m1'
              | ok k =>
                rw [hk] at fx1
                intro H4 s4
                have D4 := s4 _ _ D3
                cases k with
                | false =>
                  have fx' : f px = .ok none := fx1
                  rw [fx'] at m1'
                  exact ⟨S3.trans s4, ys0, rest, vs0, m1', m2, D4, by omega, Reps.mono (hid_same (s3.trans s4)) _ _ m5⟩
                | true =>
                  have fx' : f px = (evE elt ρ1).bnd fun y => .ok (some y) := fx1
                  refine ⟨(D, ρ1), eσ.ext s4, ?_⟩
                  cases hel : evE elt ρ1 with
                  | stuck => rw [fx', hel] at m1'; cases m1'
                  | exc c => rw [fx', hel] at m1'; cases m1'
                  | ok y =>
                    rw [hel] at fx'
                    rw [show f px = .ok (some y) from fx'] at m1'
                    intro u H5 s5 ru
                    have D5 := s5 _ _ D4
                    refine ⟨vs0, D5, by rw [m5.len, szL_eq]; omega, sU ((S3.trans s4).trans s5), ?_⟩
                    cases hr : mapC f (xs.drop (i + 1)) with
                    | ok rest' =>
                      rw [hr] at m1'
                      cases m1'
                      refine ⟨ys0 ++ [y], rest', vs0 ++ [u], rfl, by rw [m2, List.append_assoc]; rfl, upd_same, by rw [List.length_append, List.length_singleton]; omega, ?_⟩
                      refine Reps.append ?_ (.cons ?_ .nil)
                      · exact Reps.mono ((hid_same ((s3.trans s4).trans s5)).trans (hid_off (.inr rfl))) _ _ m5
                      · exact Rep.mono (Same.trans (hid_sub back) (hid_off (.inr rfl))) _ _ ru
                    | exc c => rw [hr] at m1'; cases m1'
                    | stuck => rw [hr] at m1'; cases m1'
          · rintro H' ⟨s, ys0, rest, vs0, m1, m2, m3, m4, m5⟩
            rw [List.drop_length] at m1
            cases m1
            rw [List.append_nil] at m2
            subst m2
            have np : H D = none := by
              cases h : H D with
              | none => rfl
              | some o =>
                have := s1 _ _ h
                rw [nD] at this
                cases this
            exact q2.new' e.inS np (s1.trans s) m3 (by omega) m5
    · rw [if_neg fb] at q0
      exact q0.no
  refine ⟨?_, key⟩
  obtain ⟨g, tt, te, h1, h2, h3, h4⟩ := key
  exact (pe_lc hc hN hi ok h1 h2 h3 hset).imp h4
end
end MP

/-! MP, part 10: every expression keeps its meaning. -/
namespace MP
open PySem PySem.Spec PyProof.Rows L2

abbrev zw (z : Cz) (sc : Scope) (fnb : Str → Bool) : Cz := { z with sc := sc, fnb := fnb }
def Md (z : Cz) (X : Cx) (W : Wh) (C : Cfg) (b : Bool) : Prop := (Good1 z X W ∧ C.xa = none) ∨ b = true
section
variable {z : Cz} {X : Cx} {W : Wh} {C : Cfg} {b c : Bool}
theorem Md.l (h : Md z X W C (b && c)) : Md z X W C b := h.imp id fun h => by rw [Bool.and_eq_true] at h; exact h.1
theorem Md.r (h : Md z X W C (b && c)) : Md z X W C c := h.imp id fun h => by rw [Bool.and_eq_true] at h; exact h.2
theorem Md.g (h : Md z X W C false) : Good1 z X W ∧ C.xa = none := h.elim id fun h => by cases h
theorem Md.of (h : Good1 z X W ∧ C.xa = none) : Md z X W C b := .inl h
theorem takesN {X : Cx} : Takes X (fun _ _ _ _ => False) := fun _ _ x => by
  obtain ⟨_, _, _, _, _, _, _, _, _, _, _, _, _, _, _, _, z⟩ := x
  exact z.elim
theorem blk0 {sc : Scope} {fnb : Str → Bool} (g : Good0 (zw z sc fnb) X) (scope : Scope) (s : Shared) (H : Hp) (c : Addr) (cl : List (Str × Addr)) (fp : List Addr) :
    Good0 (zw z (relS scope sc) (fun x => scope.names.lookup x == some .cell)) (X.blk s H scope (compEnvC scope cl c X.env) fp) := by
  refine ⟨g.hP, g.hw, g.hK, g.hmg, g.hb, g.hN, g.nd, ?_, fun _ h => h⟩
  show relS scope X.env.scope = relS scope sc
  rw [g.hsc]
theorem blkC0 {sc sc' : Scope} {fnb fnb' : Str → Bool} (g : GoodC (zw z sc fnb) X C) (D : Addr) (scope : Scope) (s : Shared) (H : Hp) (c : Addr) (cl : List (Str × Addr)) (fp : List Addr) :
    GoodC (zw z sc' fnb') (X.blk s H scope (compEnvC scope cl c X.env) fp) (C.inn D) := ⟨g.hK, g.hG, fun a c h => by cases h⟩
theorem blk1 {sc sc' : Scope} {fnb fnb' : Str → Bool} (g : Good1 (zw z sc fnb) X W) (D : Addr) (scope : Scope) (s : Shared) (H : Hp) (c : Addr) (cl : List (Str × Addr)) (fp : List Addr) :
    Good1 (zw z sc' fnb') (X.blk s H scope (compEnvC scope cl c X.env) fp) W0 ∧ (C.inn D).xa = none := ⟨⟨g.calm, g.room, PassesOwn.never, takesN.imp fun cls d σ H ⟨c, _, _, h⟩ => h⟩, rfl⟩
end
/-- what a comprehension's parts are -/
structure CompI (z : Cz) (X : Cx) (W : Wh) (C : Cfg) (ρ : Env') (elt cond : Exp) (tg : Tgt) (it : Itx) (own' : List (Str × Nat)) (x t i : Expr) (ifs : List Expr) (scope : Scope) : Prop where
  ok : BlkOk X.N X.env.scope scope own'
  hset : ∀ x, foldedSetIterable i X.env x = pure x
  sub : ∀ j, j ∈ slotsT tg → j ∈ own'.map (·.2)
  hi : PI X t i (tJ C W ρ true (evI it ρ true))
  hg : ∀ (s : Shared) (H : Hp) (c : Addr) (cl : List (Str × Addr)) (fp : List Addr) (q : Addr × PV), PG (X.blk s H scope (compEnvC scope cl c X.env) fp) t (tG (C.inn q.1) (wipe' ρ (own'.map (·.2))) tg q.2)
  ht : ∀ (s : Shared) (H : Hp) (c : Addr) (cl : List (Str × Addr)) (fp : List Addr) (q : Addr × Env'), PTs (X.blk s H scope (compEnvC scope cl c X.env) fp) ifs (tTb (C.inn q.1) W0 q.2 (if isOmit cond then .ok true else (evE cond q.2).bnd truR))
  he : ∀ (s : Shared) (H : Hp) (c : Addr) (cl : List (Str × Addr)) (fp : List Addr) (q : Addr × Env'), PE (X.blk s H scope (compEnvC scope cl c X.env) fp) x (tE (C.inn q.1) W0 q.2 (evE elt q.2))
theorem set_of_chk {N : List Str} {sc : Scope} {it : Itx} {t i : Expr} (h : chkI N sc it t i = true) (env : Env) (x : Value) : foldedSetIterable i env x = pure x := by
  refine folded_of ?_ env x
  cases it with
  | seq a =>
    have h' : (chkE N sc a i && !isSet i) = true := h
    rw [Bool.and_eq_true] at h'
    simpa using h'.2
  | _ => cases i <;> first | rfl | (exfalso; revert h; simp [chkI])
section
variable (z : Cz)
mutual
theorem sndE : ∀ (c : Exp) (sc : Scope) (fnb : Str → Bool) (X : Cx) (W : Wh) (C : Cfg) (ρ : Env') (e : Expr), Good0 (zw z sc fnb) X → GoodC (zw z sc fnb) X C → Md (zw z sc fnb) X W C (cfE c) → chkE z.N sc c e = true → OkE z c → SE X C W ρ e c
  | .omit, sc, fnb, X, W, C, ρ, e, g0, gc, md, hc, ok => by cases hc
  | .var i, sc, fnb, X, W, C, ρ, e, g0, gc, md, hc, ok => by
    cases e with
    | Name x p =>
      have h : (decide (z.N[i]? = some x) && visB sc x && okN x) = true := hc
      simp only [Bool.and_eq_true, decide_eq_true_eq] at h
      exact se_var g0 gc h.1.1 h.1.2 h.2
    | _ => cases hc
  | .int n, sc, fnb, X, W, C, ρ, e, g0, gc, md, hc, ok => by
    cases e with
    | Constant v k p =>
      cases v with
      | int m =>
        have h : decide (n = m) = true := hc
        rw [decide_eq_true_eq] at h
        subst h
        exact se_const (gc.hK.trans g0.hK.symm) rfl rfl rfl pe_int rfl rfl
      | _ => cases hc
    | _ => cases hc
  | .str n, sc, fnb, X, W, C, ρ, e, g0, gc, md, hc, ok => by
    cases e with
    | Constant v k p =>
      cases v with
      | str m =>
        have h : decide (n = m) = true := hc
        rw [decide_eq_true_eq] at h
        subst h
        exact se_const (gc.hK.trans g0.hK.symm) rfl rfl rfl pe_str rfl rfl
      | _ => cases hc
    | _ => cases hc
  | .bl n, sc, fnb, X, W, C, ρ, e, g0, gc, md, hc, ok => by
    cases e with
    | Constant v k p =>
      cases v with
      | bool m =>
        have h : decide (n = m) = true := hc
        rw [decide_eq_true_eq] at h
        subst h
        exact se_const (gc.hK.trans g0.hK.symm) rfl rfl rfl pe_bl rfl rfl
      | _ => cases hc
    | _ => cases hc
  | .non, sc, fnb, X, W, C, ρ, e, g0, gc, md, hc, ok => by
    cases e with
    | Constant v k p =>
      cases v with
      | none => exact se_const (gc.hK.trans g0.hK.symm) rfl rfl rfl pe_non rfl rfl
      | _ => cases hc
    | _ => cases hc
  | .glob x v, sc, fnb, X, W, C, ρ, e, g0, gc, md, hc, ok => by
    obtain ⟨v0, u, h1, h2, h3⟩ := ok
    exact se_glob (gc.hK.trans g0.hK.symm) g0 hc h1 h2 (by rw [gc.hK, gc.hG]; exact h3)
  | .bin op a b, sc, fnb, X, W, C, ρ, e, g0, gc, md, hc, ok => by
    cases e with
    | BinOp l o r p =>
      have h : (decide (bopA op = o) && chkE z.N sc a l && chkE z.N sc b r) = true := hc
      simp only [Bool.and_eq_true, decide_eq_true_eq] at h
      obtain ⟨⟨rfl, h1⟩, h2⟩ := h
      exact se_bin (gc.hK.trans g0.hK.symm) (sndE a sc fnb X W C ρ l g0 gc (.of md.g) h1 ok.1) (sndE b sc fnb X W C ρ r g0 gc (.of md.g) h2 ok.2)
    | _ => cases hc
  | .neg a, sc, fnb, X, W, C, ρ, e, g0, gc, md, hc, ok => by
    cases e with
    | UnaryOp o l p =>
      cases o with
      | USub => exact se_neg (gc.hK.trans g0.hK.symm) (sndE a sc fnb X W C ρ l g0 gc (.of md.g) hc ok)
      | _ => cases hc
    | _ => cases hc
  | .not a, sc, fnb, X, W, C, ρ, e, g0, gc, md, hc, ok => by
    cases e with
    | UnaryOp o l p =>
      cases o with
      | Not =>
        have h : (chkE z.N sc a l && !isIte a) = true := hc
        rw [Bool.and_eq_true] at h
        exact se_not (gc.hK.trans g0.hK.symm) (by simpa using h.2) (sndE a sc fnb X W C ρ l g0 gc md h.1 ok)
      | _ => cases hc
    | _ => cases hc
  | .and es, sc, fnb, X, W, C, ρ, e, g0, gc, md, hc, ok => by
    cases e with
    | BoolOp o vs p =>
      cases o with
      | And => exact (sndB es sc fnb X W C ρ vs p g0 gc md hc ok).1.se rfl rfl rfl
      | Or => cases hc
    | _ => cases hc
  | .or es, sc, fnb, X, W, C, ρ, e, g0, gc, md, hc, ok => by
    cases e with
    | BoolOp o vs p =>
      cases o with
      | Or => exact (sndB es sc fnb X W C ρ vs p g0 gc md hc ok).2.se rfl rfl rfl
      | And => cases hc
    | _ => cases hc
  | .ite c a b, sc, fnb, X, W, C, ρ, e, g0, gc, md, hc, ok => by
    cases e with
    | IfExp t x y p =>
      have h : (chkE z.N sc c t && !isIte c && chkE z.N sc a x && chkE z.N sc b y) = true := hc
      simp only [Bool.and_eq_true] at h
      exact se_ite (gc.hK.trans g0.hK.symm) (by simpa using h.1.1.2) (sndE c sc fnb X W C ρ t g0 gc (Md.l (Md.l md)) h.1.1.1 ok.1) (sndE a sc fnb X W C ρ x g0 gc (Md.r (Md.l md)) h.1.2 ok.2.1) (sndE b sc fnb X W C ρ y g0 gc (Md.r md) h.2 ok.2.2)
    | _ => cases hc
  | .cmp op a b, sc, fnb, X, W, C, ρ, e, g0, gc, md, hc, ok => by
    cases e with
    | Compare l os rs p =>
      match os, rs, hc with
      | [o], [r], hc =>
        have h : (decide (copA op = o) && chkE z.N sc a l && chkE z.N sc b r) = true := hc
        simp only [Bool.and_eq_true, decide_eq_true_eq] at h
        obtain ⟨⟨rfl, h1⟩, h2⟩ := h
        exact se_cmp (gc.hK.trans g0.hK.symm) md.g.1.room.units (sndE a sc fnb X W C ρ l g0 gc (.of md.g) h1 ok.1) (sndE b sc fnb X W C ρ r g0 gc (.of md.g) h2 ok.2)
    | _ => cases hc
  | .chain o1 o2 a b c, sc, fnb, X, W, C, ρ, e, g0, gc, md, hc, ok => by
    cases e with
    | Compare l os rs p =>
      match os, rs, hc with
      | [p1, p2], [m, r], hc =>
        have h : (decide (copA o1 = p1) && decide (copA o2 = p2) && chkE z.N sc a l && chkE z.N sc b m && chkE z.N sc c r && !lastMarks [p1, p2] [m, r]) = true := hc
        simp only [Bool.and_eq_true, decide_eq_true_eq] at h
        obtain ⟨⟨⟨⟨⟨rfl, rfl⟩, h1⟩, h2⟩, h3⟩, h4⟩ := h
        exact se_chain (gc.hK.trans g0.hK.symm) md.g.1.room.units (by simpa using h4) (sndE a sc fnb X W C ρ l g0 gc (.of md.g) h1 ok.1) (sndE b sc fnb X W C ρ m g0 gc (.of md.g) h2 ok.2.1) (sndE c sc fnb X W C ρ r g0 gc (.of md.g) h3 ok.2.2)
    | _ => cases hc
  | .isN a, sc, fnb, X, W, C, ρ, e, g0, gc, md, hc, ok => by
    cases e with
    | Compare l os rs p =>
      match os, rs, hc with
      | [.Is], [.Constant .none k p2], hc => exact se_isN (gc.hK.trans g0.hK.symm) (sndE a sc fnb X W C ρ l g0 gc (.of md.g) hc ok)
    | _ => cases hc
  | .notN a, sc, fnb, X, W, C, ρ, e, g0, gc, md, hc, ok => by
    cases e with
    | Compare l os rs p =>
      match os, rs, hc with
      | [.IsNot], [.Constant .none k p2], hc => exact se_notN (gc.hK.trans g0.hK.symm) (sndE a sc fnb X W C ρ l g0 gc (.of md.g) hc ok)
    | _ => cases hc
  | .isIn neg a b, sc, fnb, X, W, C, ρ, e, g0, gc, md, hc, ok => by
    cases e with
    | Compare l os rs p =>
      match os, rs, hc with
      | [o], [r], hc =>
        have h : (decide (o = if neg then CmpOp.NotIn else .In) && chkE z.N sc a l && chkE z.N sc b r && !behindInMarks o r) = true := hc
        simp only [Bool.and_eq_true, decide_eq_true_eq] at h
        obtain ⟨⟨⟨rfl, h1⟩, h2⟩, h3⟩ := h
        exact se_isIn (gc.hK.trans g0.hK.symm) (by simpa using h3) (sndE a sc fnb X W C ρ l g0 gc (.of md.g) h1 ok.1) (sndE b sc fnb X W C ρ r g0 gc (.of md.g) h2 ok.2)
    | _ => cases hc
  | .list es, sc, fnb, X, W, C, ρ, e, g0, gc, md, hc, ok => by
    cases e with
    | List xs p => exact se_list (gc.hK.trans g0.hK.symm) (sndEs es sc fnb X W C ρ xs g0 gc md hc ok)
    | _ => cases hc
  | .tuple es, sc, fnb, X, W, C, ρ, e, g0, gc, md, hc, ok => by
    cases e with
    | Tuple xs k p => exact se_tuple (gc.hK.trans g0.hK.symm) (sndEs es sc fnb X W C ρ xs g0 gc (.of md.g) hc ok)
    | _ => cases hc
  | .idx a b, sc, fnb, X, W, C, ρ, e, g0, gc, md, hc, ok => by
    cases e with
    | Subscript x s p =>
      have h : (chkE z.N sc a x && chkE z.N sc b s && !isSlice s) = true := hc
      simp only [Bool.and_eq_true] at h
      exact se_idx (gc.hK.trans g0.hK.symm) (by simpa using h.2) (sndE a sc fnb X W C ρ x g0 gc (.of md.g) h.1.1 ok.1) (sndE b sc fnb X W C ρ s g0 gc (.of md.g) h.1.2 ok.2)
    | _ => cases hc
  | .slc a lo hi, sc, fnb, X, W, C, ρ, e, g0, gc, md, hc, ok => by
    cases e with
    | Subscript x s p =>
      match s, hc with
      | .Slice l u none p2, hc =>
        have h : (chkE z.N sc a x && (match (generalizing := false) l with | none => isOmit lo | some l => !isOmit lo && chkE z.N sc lo l) && (match (generalizing := false) u with | none => isOmit hi | some u => !isOmit hi && chkE z.N sc hi u)) = true := hc
        simp only [Bool.and_eq_true] at h
        obtain ⟨⟨h1, h2⟩, h3⟩ := h
        refine se_slc (gc.hK.trans g0.hK.symm) (sndE a sc fnb X W C ρ x g0 gc (.of md.g) h1 ok.1) ?_ ?_
        · cases l with
          | none =>
            rw [show isOmit lo = true from h2]
            exact po_no
          | some l =>
            have h2' : (!isOmit lo && chkE z.N sc lo l) = true := h2
            rw [Bool.and_eq_true] at h2'
            have h4 : isOmit lo = false := by simpa using h2'.1
            rw [h4]
            exact po_e (sndE lo sc fnb X W C ρ l g0 gc (.of md.g) h2'.2 ok.2.1)
        · cases u with
          | none =>
            rw [show isOmit hi = true from h3]
            exact po_no
          | some u =>
            have h3' : (!isOmit hi && chkE z.N sc hi u) = true := h3
            rw [Bool.and_eq_true] at h3'
            have h4 : isOmit hi = false := by simpa using h3'.1
            rw [h4]
            exact po_e (sndE hi sc fnb X W C ρ u g0 gc (.of md.g) h3'.2 ok.2.2)
    | _ => cases hc
  | .fld a c k f, sc, fnb, X, W, C, ρ, e, g0, gc, md, hc, ok => by
    cases e with
    | Attribute v y p =>
      have h : (decide (y = f) && chkE z.N sc a v && !isSuper v) = true := hc
      simp only [Bool.and_eq_true, decide_eq_true_eq] at h
      obtain ⟨⟨rfl, h1⟩, h2⟩ := h
      obtain ⟨⟨k1, k2, k3, k4⟩, ok2⟩ := ok
      refine se_fld (gc.hK.trans g0.hK.symm) (by simpa using h2) ?_ ?_ ?_ ?_ (sndE a sc fnb X W C ρ v g0 gc (.of md.g) h1 ok2)
      · rw [gc.hG, g0.hK]; exact k1
      · rw [gc.hG, g0.hK]; exact k2
      · rw [gc.hG]; exact k3
      · rw [gc.hG]; exact k4
    | _ => cases hc
  | .call x g fr dfl es, sc, fnb, X, W, C, ρ, e, g0, gc, md, hc, ok => by
    cases e with
    | Call f args kws p =>
      cases kws with
      | nil =>
        have h : (glN sc x f && chkEs z.N sc es args) = true := hc
        simp only [Bool.and_eq_true] at h
        exact se_call (gc.hK.trans g0.hK.symm) gc g0 md.g.1 h.1 ok.1 (sndEs es sc fnb X W C ρ args g0 gc (.of md.g) h.2 ok.2) h.2
      | cons _ _ => cases hc
    | _ => cases hc
  | .meth a c m g fr dfl es, sc, fnb, X, W, C, ρ, e, g0, gc, md, hc, ok => by
    cases e with
    | Call f args kws p =>
      match f, kws, hc with
      | .Attribute o y ap, [], hc =>
        have h : (decide (y = m) && chkE z.N sc a o && !isSuper o && chkEs z.N sc es args && decide (args.length < 30) && (ap.endLine == p.line)) = true := hc
        simp only [Bool.and_eq_true, decide_eq_true_eq] at h
        obtain ⟨⟨⟨⟨⟨rfl, h1⟩, h2⟩, h3⟩, h4⟩, h5⟩ := h
        exact se_meth (gc.hK.trans g0.hK.symm) gc g0 md.g.1 ok.1 (sndE a sc fnb X W C ρ o g0 gc (.of md.g) h1 ok.2.1) (sndEs es sc fnb X W C ρ args g0 gc (.of md.g) h3 ok.2.2) h3 (by simpa using h2) h4 h5
    | _ => cases hc
  | .mk x c g dfl es, sc, fnb, X, W, C, ρ, e, g0, gc, md, hc, ok => by
    cases e with
    | Call f args kws p =>
      cases kws with
      | nil =>
        have h : (glN sc x f && chkEs z.N sc es args && !args.isEmpty) = true := hc
        simp only [Bool.and_eq_true] at h
        exact se_mk (gc.hK.trans g0.hK.symm) gc g0 md.g.1 h.1.1 ok.1 (sndEs es sc fnb X W C ρ args g0 gc (.of md.g) h.1.2 ok.2) h.1.2 (fun e => by rw [e] at h; cases h.2)
      | cons _ _ => cases hc
    | _ => cases hc
  | .blt f es, sc, fnb, X, W, C, ρ, e, g0, gc, md, hc, ok => by
    cases e with
    | Call f args kws p =>
      cases kws with
      | nil =>
        have h : (glN sc (bltN _) f && chkEs z.N sc es args) = true := hc
        simp only [Bool.and_eq_true] at h
        exact se_blt (gc.hK.trans g0.hK.symm) g0 md.g.1 h.1 ok.1 (sndEs es sc fnb X W C ρ args g0 gc (.of md.g) h.2 ok.2) h.2
      | cons _ _ => cases hc
    | _ => cases hc
  | .isI a T, sc, fnb, X, W, C, ρ, e, g0, gc, md, hc, ok => by
    cases e with
    | Call f args kws p =>
      match args, kws, hc with
      | [x, t], [], hc =>
        have h : (glN sc "isinstance" f && chkE z.N sc a x && glN sc (Str.ofString T) t && !isStar x) = true := hc
        simp only [Bool.and_eq_true] at h
        obtain ⟨⟨k1, k2, k3, k4, k5⟩, ok2⟩ := ok
        exact se_isI (gc.hK.trans g0.hK.symm) g0 h.1.1.1 h.1.2 k1 k2 k3 k4 k5 (by simpa using h.2) (sndE a sc fnb X W C ρ x g0 gc (.of md.g) h.1.1.2 ok2)
    | _ => cases hc
  | .isX i x tab, sc, fnb, X, W, C, ρ, e, g0, gc, md, hc, ok => by
    cases e with
    | Call f args kws p =>
      match args, kws, hc with
      | [.Name y py, t], [], hc =>
        have h : (glN sc "isinstance" f && decide (z.N[i]? = some y) && visB sc y && okN y && glN sc x t) = true := hc
        simp only [Bool.and_eq_true, decide_eq_true_eq] at h
        obtain ⟨k1, d, k2, k3⟩ := ok
        exact se_isX (gc.hK.trans g0.hK.symm) gc g0 h.1.1.1.1 h.2 h.1.1.1.2 h.1.1.2 h.1.2 k1 k2 k3
    | _ => cases hc
  | .comp elt cond tg it own', sc, fnb, X, W, C, ρ, e, g0, gc, md, hc, ok => by
    cases e with
    | ListComp x gens scope p =>
      match gens, hc with
      | [⟨t, i, ifs, 0⟩], hc =>
        have h : (blkC z.N sc scope own' && chkE z.N (relS scope sc) elt x && (match (generalizing := false) ifs with
          | [] => isOmit cond
          | [c] => !isOmit cond && !isIte cond && chkE z.N (relS scope sc) cond c
          | _ => false) && chkT z.N (relS scope sc) (fun x => scope.names.lookup x == some .cell) tg t && chkI z.N sc it t i && (slotsT tg).all (own'.map (·.2)).contains) = true := hc
        simp only [Bool.and_eq_true] at h
        obtain ⟨⟨⟨⟨⟨h1, h2⟩, h3⟩, h4⟩, h5⟩, h6⟩ := h
        have eK := gc.hK.trans g0.hK.symm
        obtain ⟨g1, hx⟩ := md.g
        have := se_comp (X := X) (C := C) (W := W) (ρ := ρ) (elt := elt) (cond := cond) (tg := tg) (it := it) (own' := own') (x := x) (t := t) (i := i) (ifs := ifs) (scope := scope) (p := p) eK g1.calm (by rw [g0.hN]; exact g0.nd) hx (by rw [g0.hN, g0.hsc]; exact blkOk_by h1) (set_of_chk h5 X.env)
          (fun j hj => by have := List.all_eq_true.mp h6 j hj; simpa using this) (sndI it sc fnb X W C ρ t i true g0 gc (.of md.g) h5 ok.2.2)
          (fun s H c cl fp q => pg_T (blk0 g0 scope s H c cl fp) (blkC0 gc q.1 scope s H c cl fp) g1.calm h4 q.2)
          (fun s H c cl fp q => by
            match ifs, h3 with
            | [], h3 =>
              rw [show isOmit cond = true from h3]
              exact pts_nil.imp fun σ H Q q => q.2 H (Same.refl _)
            | [cc], h3 =>
              have h3' : (!isOmit cond && !isIte cond && chkE z.N (relS scope sc) cond cc) = true := h3
              simp only [Bool.and_eq_true] at h3'
              have h7 : isOmit cond = false := by simpa using h3'.1.1
              rw [h7]
              exact pts_one ((sndE cond (relS scope sc) (fun x => scope.names.lookup x == some .cell) _ W0 (C.inn q.1) q.2 cc (blk0 g0 scope s H c cl fp) (blkC0 gc q.1 scope s H c cl fp) (.of (blk1 g1 q.1 scope s H c cl fp)) h3'.2 ok.2.1).b (by simpa using h3'.1.2)))
          (fun s H c cl fp q => (sndE elt (relS scope sc) (fun x => scope.names.lookup x == some .cell) _ W0 (C.inn q.1) q.2 x (blk0 g0 scope s H c cl fp) (blkC0 gc q.1 scope s H c cl fp) (.of (blk1 g1 q.1 scope s H c cl fp)) h2 ok.1).e)
        exact SE.plain rfl rfl eK fun fr hf => (this fr).1
    | _ => cases hc
  | .brw i a, sc, fnb, X, W, C, ρ, e, g0, gc, md, hc, ok => se_brw (sndE a sc fnb X W C (frz i ρ) e g0 gc (.of md.g) hc ok)
theorem sndEs : ∀ (cs : Exps) (sc : Scope) (fnb : Str → Bool) (X : Cx) (W : Wh) (C : Cfg) (ρ : Env') (es : List Expr), Good0 (zw z sc fnb) X → GoodC (zw z sc fnb) X C → Md (zw z sc fnb) X W C (cfEs cs) → chkEs z.N sc cs es = true → OkEs z cs → SEs X C W ρ es cs
  | .nil, sc, fnb, X, W, C, ρ, es, g0, gc, md, hc, ok => by
    cases es with
    | nil => exact ses_nil
    | cons _ _ => cases hc
  | .cons c cs, sc, fnb, X, W, C, ρ, es, g0, gc, md, hc, ok => by
    cases es with
    | nil => cases hc
    | cons e es =>
      have h : (chkE z.N sc c e && !isStar e && chkEs z.N sc cs es) = true := hc
      simp only [Bool.and_eq_true] at h
      exact ses_cons (sndE c sc fnb X W C ρ e g0 gc md.l h.1.1 ok.1) (sndEs cs sc fnb X W C ρ es g0 gc md.r h.2 ok.2) (by simpa using h.1.2)
theorem sndB : ∀ (cs : Exps) (sc : Scope) (fnb : Str → Bool) (X : Cx) (W : Wh) (C : Cfg) (ρ : Env') (vs : List Expr) (p : Pos), Good0 (zw z sc fnb) X → GoodC (zw z sc fnb) X C → Md (zw z sc fnb) X W C (cfEs cs) → chkB z.N sc cs vs = true → OkEs z cs →
    SBo X C W ρ (.BoolOp .And vs p) (evAnd cs ρ) ∧ SBo X C W ρ (.BoolOp .Or vs p) (evOr cs ρ)
  | .nil, sc, fnb, X, W, C, ρ, vs, p, g0, gc, md, hc, ok => by cases hc
  | .cons c cs, sc, fnb, X, W, C, ρ, vs, p, g0, gc, md, hc, ok => by
    cases vs with
    | nil => cases hc
    | cons e es =>
      have fin : ∀ b : Bool, (chkE z.N sc c e && !isIte c && b) = true → chkE z.N sc c e = true ∧ isIte c = false ∧ b = true := fun b h => by
        simp only [Bool.and_eq_true] at h
        exact ⟨h.1.1, by simpa using h.1.2, h.2⟩
      have ih := fun (vs : List Expr) (h : chkB z.N sc cs vs = true) => sndB cs sc fnb X W C ρ vs p g0 gc md.r h ok.2
      have iha := fun h1 => sndE c sc fnb X W C ρ e g0 gc md.l h1 ok.1
      cases cs with
      | nil =>
        cases es with
        | nil =>
          obtain ⟨h1, ni, _⟩ := fin true hc
          exact ⟨sb_one (.inl rfl) ni (iha h1), sb_one (.inr rfl) ni (iha h1)⟩
        | cons e2 es2 =>
          obtain ⟨_, _, h3⟩ := fin (chkB z.N sc .nil (e2 :: es2)) hc
          cases h3
      | cons c2 cs2 =>
        cases es with
        | nil =>
          obtain ⟨_, _, h3⟩ := fin (chkB z.N sc (.cons c2 cs2) []) hc
          cases h3
        | cons e2 es2 =>
          obtain ⟨h1, ni, h3⟩ := fin (chkB z.N sc (.cons c2 cs2) (e2 :: es2)) hc
          obtain ⟨i1, i2⟩ := ih (e2 :: es2) h3
          exact ⟨sb_and ni (iha h1) i1, sb_or ni (iha h1) i2⟩
theorem sndI : ∀ (it : Itx) (sc : Scope) (fnb : Str → Bool) (X : Cx) (W : Wh) (C : Cfg) (ρ : Env') (t i : Expr) (top : Bool), Good0 (zw z sc fnb) X → GoodC (zw z sc fnb) X C → Md (zw z sc fnb) X W C false → chkI z.N sc it t i = true → OkI z it → PI X t i (tJ C W ρ top (evI it ρ top))
  | .seq a, sc, fnb, X, W, C, ρ, t, i, top, g0, gc, md, hc, ok => by
    have h : (chkE z.N sc a i && !isSet i) = true := hc
    rw [Bool.and_eq_true] at h
    exact si_seq (gc.hK.trans g0.hK.symm) top (sndE a sc fnb X W C ρ i g0 gc (.of md.g) h.1 ok)
  | .r1 a, sc, fnb, X, W, C, ρ, t, i, top, g0, gc, md, hc, ok => by
    cases i with
    | Call f args kws p =>
      match f, args, kws, hc with
      | .Name f pf, [x], [], hc =>
        have h : (decide (f = "range") && glB sc "range" && chkE z.N sc a x && !isStar x) = true := hc
        simp only [Bool.and_eq_true, decide_eq_true_eq] at h
        obtain ⟨⟨⟨rfl, h1⟩, h2⟩, h3⟩ := h
        exact si_r1 g0 top h1 ok.1 (by simpa using h3) (sndE a sc fnb X W C ρ x g0 gc (.of md.g) h2 ok.2)
    | _ => cases hc
  | .r2 a b, sc, fnb, X, W, C, ρ, t, i, top, g0, gc, md, hc, ok => by
    cases i with
    | Call f args kws p =>
      match f, args, kws, hc with
      | .Name f pf, [x, y], [], hc =>
        have h : (decide (f = "range") && glB sc "range" && chkE z.N sc a x && !isStar x && chkE z.N sc b y && !isStar y) = true := hc
        simp only [Bool.and_eq_true, decide_eq_true_eq] at h
        obtain ⟨⟨⟨⟨⟨rfl, h1⟩, h2⟩, h3⟩, h4⟩, h5⟩ := h
        exact si_r2 g0 top h1 ok.1 (by simpa using h3) (by simpa using h5) (sndE a sc fnb X W C ρ x g0 gc (.of md.g) h2 ok.2.1) (sndE b sc fnb X W C ρ y g0 gc (.of md.g) h4 ok.2.2)
    | _ => cases hc
  | .enum a, sc, fnb, X, W, C, ρ, t, i, top, g0, gc, md, hc, ok => by
    have hc' : (isTp t && (match (generalizing := false) i with
      | .Call (.Name f _) [x] [] _ => decide (f = "enumerate") && glB sc "enumerate" && chkE z.N sc a x && !isStar x
      | _ => false)) = true := hc
    rw [Bool.and_eq_true] at hc'
    obtain ⟨h0, hc2⟩ := hc'
    clear hc
    cases i with
    | Call f args kws p =>
      match f, args, kws, hc2 with
      | .Name f pf, [x], [], hc =>
        have h : (decide (f = "enumerate") && glB sc "enumerate" && chkE z.N sc a x && !isStar x) = true := hc
        simp only [Bool.and_eq_true, decide_eq_true_eq] at h
        obtain ⟨⟨⟨rfl, h1⟩, h2⟩, h3⟩ := h
        exact si_enum (gc.hK.trans g0.hK.symm) g0 top h0 h1 ok.1 (by simpa using h3) (sndE a sc fnb X W C ρ x g0 gc (.of md.g) h2 ok.2)
    | _ => cases hc2
  | .zip a b, sc, fnb, X, W, C, ρ, t, i, top, g0, gc, md, hc, ok => by
    have hc' : (isTp t && (match (generalizing := false) i with
      | .Call (.Name f _) [x, y] [] _ => decide (f = "zip") && glB sc "zip" && chkE z.N sc a x && !isStar x && chkE z.N sc b y && !isStar y
      | _ => false)) = true := hc
    rw [Bool.and_eq_true] at hc'
    obtain ⟨h0, hc2⟩ := hc'
    clear hc
    cases i with
    | Call f args kws p =>
      match f, args, kws, hc2 with
      | .Name f pf, [x, y], [], hc =>
        have h : (decide (f = "zip") && glB sc "zip" && chkE z.N sc a x && !isStar x && chkE z.N sc b y && !isStar y) = true := hc
        simp only [Bool.and_eq_true, decide_eq_true_eq] at h
        obtain ⟨⟨⟨⟨⟨rfl, h1⟩, h2⟩, h3⟩, h4⟩, h5⟩ := h
        exact si_zip (gc.hK.trans g0.hK.symm) g0 top h0 h1 ok.1 (by simpa using h3) (by simpa using h5) (sndE a sc fnb X W C ρ x g0 gc (.of md.g) h2 ok.2.1) (sndE b sc fnb X W C ρ y g0 gc (.of md.g) h4 ok.2.2)
    | _ => cases hc2
  | .rev a, sc, fnb, X, W, C, ρ, t, i, top, g0, gc, md, hc, ok => by
    cases i with
    | Call f args kws p =>
      match f, args, kws, hc with
      | .Name f pf, [x], [], hc =>
        have h : (decide (f = "reversed") && glB sc "reversed" && chkE z.N sc a x && !isStar x) = true := hc
        simp only [Bool.and_eq_true, decide_eq_true_eq] at h
        obtain ⟨⟨⟨rfl, h1⟩, h2⟩, h3⟩ := h
        exact si_rev (gc.hK.trans g0.hK.symm) g0 top h1 ok.1 (by simpa using h3) (sndE a sc fnb X W C ρ x g0 gc (.of md.g) h2 ok.2)
    | _ => cases hc
end
end
end MP

/-! MP, part 11: statements, one by one. -/
namespace MP
open PySem PySem.Spec PyProof.Rows L2

structure RetOk (C : Cfg) (fr : Bool) (v : PV) (v' : V) (H1 : Hp) : Prop where
  le : Same C.H0 H1
  rep : Rep C.K C.G (hid C.B H1) v v'
  fresh : fr = true → ∃ xs p vs, v = .lst xs ∧ v' = .ref p ∧ C.H0 p = none ∧ H1 p = some (.lst vs) ∧ xs.length ≤ szL ∧ Reps C.K C.G (hid (fun a => C.B a ∨ a = p) H1) xs vs
def SG (C : Cfg) (W : Wh) (ρ : Env') (σ : L2.St) (H : Hp) (D : Ends) : SR → Prop
  | .next ρ1 => ∀ σ1 H1, ER C ρ1 σ1 H1 → Step ρ σ H ρ1 σ1 H1 → D.nx σ1 H1
  | .brk ρ1 => ∀ σ1 H1, ER C ρ1 σ1 H1 → Step ρ σ H ρ1 σ1 H1 → D.bk σ1 H1
  | .cont ρ1 => ∀ σ1 H1, ER C ρ1 σ1 H1 → Step ρ σ H ρ1 σ1 H1 → D.ct σ1 H1
  | .exc c ρ1 => ∀ σ1 H1, ER C ρ1 σ1 H1 → Step ρ σ H ρ1 σ1 H1 → W c σ1 H1
  | .ret fr v => ∀ v' H1, RetOk C fr v v' H1 → D.rt v' H1
  | .stuck => False
abbrev tS (C : Cfg) (W : Wh) (ρ : Env') (r : SR) : TS := fun D σ H => ER C ρ σ H ∧ SG C W ρ σ H D r
section
variable {C : Cfg} {W : Wh} {ρ : Env'} {σ : L2.St} {H : Hp} {D : Ends}
theorem SG.step {ρ1 : Env'} {σ1 : L2.St} {H1 : Hp} {r : SR} (h : SG C W ρ σ H D r) (s : Step ρ σ H ρ1 σ1 H1) : SG C W ρ1 σ1 H1 D r := by
  cases r with
  | next ρ2 => exact fun σ2 H2 e t => h σ2 H2 e (s.trans t)
  | brk ρ2 => exact fun σ2 H2 e t => h σ2 H2 e (s.trans t)
  | cont ρ2 => exact fun σ2 H2 e t => h σ2 H2 e (s.trans t)
  | exc c ρ2 => exact fun σ2 H2 e t => h σ2 H2 e (s.trans t)
  | ret f v => exact h
  | stuck => exact h
theorem sbE {S : Addr → Prop} {r : R PV} {f : PV → SR} {T : VK} (e : ER C ρ σ H) (q : SG C W ρ σ H D (sb r ρ f)) (k : ∀ x v H1, Same H H1 → Rep C.K C.G (hid S H1) x v → SG C W ρ σ H1 D (f x) → T v H1) : EV C W S r σ H T := by
  cases r with
  | ok x => exact fun v H1 s rx => k x v H1 s rx (SG.step (r := f x) q (Step.ext s))
  | exc c => exact fun H1 s => q σ H1 (e.ext s) (Step.ext s)
  | stuck => exact q
theorem sbF {S : Addr → Prop} {r : R PV} {f : PV → SR} {T : VK} (e : ER C ρ σ H) (q : SG C W ρ σ H D (sb r ρ f)) (ns : ∀ x, (∃ xs, x = .lst xs) ∨ f x = .stuck)
    (k : ∀ xs p vs H1, Same H H1 → H p = none → H1 p = some (.lst vs) → xs.length ≤ szL → Reps C.K C.G (hid (fun a => S a ∨ a = p) H1) xs vs → SG C W ρ σ H D (f (.lst xs)) → T (.ref p) H1) : EVf C W S r σ H T := by
  cases r with
  | ok x =>
    have q' : SG C W ρ σ H D (f x) := q
    rcases ns x with ⟨xs, rfl⟩ | hx
    · exact fun p vs H1 s np hp hz r => k xs p vs H1 s np hp hz r q'
    · rw [hx] at q'
      exact q'.elim
  | exc c => exact fun H1 s => q σ H1 (e.ext s) (Step.ext s)
  | stuck => exact q
theorem sbB {r : R Bool} {f : Bool → SR} {T : Bool → Hp → Prop} (e : ER C ρ σ H) (q : SG C W ρ σ H D (sb r ρ f)) (k : ∀ x H1, Same H H1 → SG C W ρ σ H1 D (f x) → T x H1) : EVb W r σ H T := by
  cases r with
  | ok x => exact fun H1 s => k x H1 s (SG.step (r := f x) q (Step.ext s))
  | exc c => exact fun H1 s => q σ H1 (e.ext s) (Step.ext s)
  | stuck => exact q
theorem ER.setN (e : ER C ρ σ H) (i : Nat) {x : PV} {v : V} (r : Rep C.K C.G (hid (C.S ρ σ) H) x v) : ER C (ρ.set i (.fr x)) (σ.set i (some v)) H ∧ Step ρ σ H (ρ.set i (.fr x)) (σ.set i (some v)) H :=
  ⟨(e.set' i r).1, Step.less (Same.refl _) (e.set' i r).2⟩
theorem ER.setOw (e : ER C ρ σ H) {H1 : Hp} (i : Nat) {xs : List PV} {vs : List V} {p : Addr} (s : Same H H1) (np : H p = none) (hp : H1 p = some (.lst vs)) (hz : xs.length ≤ szL) (r : Reps C.K C.G (hid (fun a => C.S ρ σ a ∨ a = p) H1) xs vs) :
    ER C (ρ.set i (.ow xs)) (σ.set i (some (.ref p))) H1 ∧ Step ρ σ H (ρ.set i (.ow xs)) (σ.set i (some (.ref p))) H1 := by
  by_cases hi : i < ρ.length
  · refine ⟨e.newOw s hi np hp hz r, ⟨fun a o q _ => s a o q, fun a ⟨j, z1, z2⟩ => ?_, fun a o q => ⟨o, s a o q⟩⟩⟩
    by_cases ej : i = j
    · subst ej
      rw [List.getElem?_set_self (by rw [← e.len]; exact hi)] at z2
      cases z2
      exact .inr np
    · rw [sl_set_ne ej] at z1
      rw [List.getElem?_set_ne ej] at z2
      exact .inl ⟨j, z1, z2⟩
  · rw [set_self (by omega), List.set_eq_of_length_le (by rw [← e.len]; omega)]
    exact ⟨e.ext s, Step.ext s⟩
/-- an own object is written -/
theorem Step.mut (e : ER C ρ σ H) {i : Nat} {s s' : Slot} {a : Addr} {o : HO} (es : sl ρ i = s) (ho : isOwn s) (ho' : isOwn s') (ea : σ[i]? = some (some (.ref a))) : Step ρ σ H (ρ.set i s') σ (upd H a o) := by
  have oa : own ρ σ a := ⟨i, by rw [es]; exact ho, ea⟩
  refine ⟨fun b u q n => ?_, fun b ⟨j, z1, z2⟩ => ?_, fun b u q => ?_⟩
  · rw [upd_ne (fun z => n (by rw [z]; exact oa))]
    exact q
  · by_cases ej : i = j
    · subst ej
      rw [ea] at z2
      cases z2
      exact .inl oa
    · rw [sl_set_ne ej] at z1
      exact .inl ⟨j, z1, z2⟩
  · by_cases z : b = a
    · subst z
      exact ⟨o, upd_same⟩
    · exact ⟨u, by rw [upd_ne z]; exact q⟩
end
theorem _root_.L2.PG.exx {X : Cx} {e : Expr} {ι : Type} {t : ι → TG} (h : ∀ i, PG X e (t i)) : PG X e (fun v σ H Q => ∃ i, t i v σ H Q) := PG.ex h
theorem _root_.L2.PSs.given {X : Cx} {es : List Stmt} {p : Prop} {t : TS} (h : p → PSs X es t) : PSs X es (fun D σ H => p ∧ t D σ H) := ⟨fun pins s σ H D I ⟨hp, q⟩ => (h hp).run pins s σ H D I q⟩
/-- o[i] of a list -/
def rGetL : V → V → Hp → VK → Prop := fun o i H Q => ∃ p xs k v, o = .ref p ∧ i = .int k ∧ H p = some (.lst xs) ∧ atI xs k = some v ∧ Q v H
theorem pget_list {X : Cx} : PGet X rGetL := by
  intro pins s σ H o i ov iv Q I ro ri h
  obtain ⟨p, xs, k, z, rfl, rfl, hq, he, q⟩ := h
  cases ro
  obtain ⟨t, rfl⟩ := ri
  obtain ⟨its, r, pl, hz⟩ := I.list (SqL.of (K := X.K) hq)
  obtain ⟨j, h1, h2, h3, h4, h5⟩ := atI_get he
  obtain ⟨w, ew, rw'⟩ := r.get h2
  have hl := r.length
  have hn := line63
  have fin : EP X pins σ Q w s := ⟨z, H, I, rw', q⟩
  by_cases h0 : 0 ≤ k
  · have hj : k.toNat = j := by
      rw [seqIndex_of h0 h5] at h1
      exact Option.some.inj h1
    exact wpAny_getItem_list pl.isList h0 (by omega) (by rw [hj]; simpa using ew) fin
  · have hj : (k + (its.toArray.size : Int)).toNat = j := by
      rw [seqIndex_neg (by omega) h4] at h1
      rw [List.size_toArray, ← hl]
      exact Option.some.inj h1
    exact wpAny_getItem_list_neg pl.isList (by omega) (by rw [List.size_toArray] <;> omega) (by omega) (by rw [hj]; simpa using ew) fin

/-! ### one statement -/
section
variable {z : Cz} {X : Cx} {W : Wh} {C : Cfg} {ρ : Env'}
theorem st_skip {s : Stmt} (h : PS X s tNext) : PS X s (tS C W ρ (exS .skip ρ)) := h.imp fun D σ H q => q.2 σ H q.1 Step.refl
theorem st_expr {e : Expr} {c : Exp} {p : Pos} (hl : isLc e = false) (ha : SE X C W ρ e c) : PS X (.Expr e p) (tS C W ρ (exS (.expr c) ρ)) := (ps_expr ha.e (swaps_of hl _ _ _)).imp fun D σ H q => by
  obtain ⟨e, q⟩ := q
  exact ⟨e, sbE e q fun x v H1 s r q1 => q1 σ H1 (e.ext s) Step.refl⟩
/-- the name of a slot as a target -/
structure Nm (z : Cz) (i : Nat) (x : Str) : Prop where
  ix : z.N[i]? = some x
  loc : locB z.sc z.fnb x = true
theorem st_set' (e0 : Good0 z X) {i : Nat} {e : Expr} {c : Exp} {st : Stmt} (h : PS X st (tAsg (tE C W ρ (evE c ρ)) (gName i))) : PS X st (tS C W ρ (exS (.set i c) ρ)) := h.imp fun D σ H q => by
  obtain ⟨e, q⟩ := q
  exact ⟨e, sbE e q fun x v H1 s r q1 => let ⟨k1, k2⟩ := (e.ext s).setN i r; q1 _ H1 k1 k2⟩
theorem st_setO' (e0 : Good0 z X) {i : Nat} {e : Expr} {c : Exp} {st : Stmt} (h : PS X st (tAsg (tM true C W ρ (evE c ρ)) (gName i))) : PS X st (tS C W ρ (exS (.setO i c) ρ)) := h.imp fun D σ H q => by
  obtain ⟨e, q⟩ := q
  refine ⟨e, ?_⟩
  show EVf C W (C.S ρ σ) (evE c ρ) σ H (fun x H1 => gName i x σ H1 D.nx)
  refine sbF e q (fun x => ?_) fun xs p vs H1 s np hp hz r q1 => ?_
  · cases x <;> first | exact .inl ⟨_, rfl⟩ | exact .inr rfl
  · obtain ⟨k1, k2⟩ := e.setOw i s np hp hz r
    exact q1 _ H1 k1 k2
theorem asg_of (g0 : Good0 z X) {i : Nat} {x : Str} {e : Expr} {te : TE} {p pos : Pos} (n : Nm z i x) (hl : isLc e = false) (he : PE X e te) : PS X (.Assign [.Name x p] e pos) (tAsg te (gName i)) := by
  obtain ⟨l1, l2⟩ := g0.loc n.loc
  exact ps_set (by rw [g0.hN]; exact g0.nd) (by rw [g0.hN]; exact n.ix) l1 he (swaps_of hl _ _ _) l2
theorem no_swap {ts : List Expr} {k : Nat} {p : Pos} {e : Expr} (h : isTp e = false) (env : Env) : swappedStores [.Tuple ts k p] e env = pure none := by
  cases e <;> first | rfl | cases h
theorem st_unpack (g0 : Good0 z X) (gc : GoodC z X C) (hc : X.calm = true) {is : List Nat} {es : List Expr} {e : Expr} {c : Exp} {k : Nat} {p pos : Pos} (hn : chkNs z.N z.sc z.fnb is es = true) (hl : isLc e = false) (ht : isTp e = false) (ha : SE X C W ρ e c) :
    PS X (.Assign [.Tuple es k p] e pos) (tS C W ρ (exS (.unpack is c) ρ)) := by
  have hg : PG X (.Tuple es k p) (fun v σ H Q => ∃ x, tG C ρ (.tp is) x v σ H Q) := PG.ex fun x => pg_T (z := z) g0 gc hc (tg := .tp is) (show chkT z.N z.sc z.fnb (.tp is) (.Tuple es k p) = true from hn) x
  refine (ps_asg (pos := pos) ha.e hg (show swapsWith e (some (.Tuple es k p)) pos.line X.env = pure false from swaps_of hl _ _ _) (no_swap ht _)).imp fun D σ H q => ?_
  obtain ⟨e, q⟩ := q
  refine ⟨e, sbE e q fun x v H1 s r q1 => ⟨x, e.ext s, r, ?_⟩⟩
  have q2 : SG C W ρ σ H1 D (match bindT (.tp is) x ρ with | some ρ1 => .next ρ1 | none => .stuck) := q1
  cases hb : bindT (.tp is) x ρ with
  | none => rw [hb] at q2; exact q2.elim
  | some ρ1 =>
    rw [hb] at q2
    exact fun σ1 e1 _ os => q2 σ1 H1 e1 (Step.less (Same.refl _) os)
/-- the pair's stores go from the right -/
def parB (sc : Scope) (x y : Str) (px py : Pos) (u v : Expr) : Bool :=
  (match sc.kind with | .function => true | _ => false) && (sc.names.lookup x == some .local) && (sc.names.lookup y == some .local) && (px.line == py.line) && !(x == y) && !(y == x) && !isStar u && !isStar v && !(foldedForSure 8 u && foldedForSure 8 v) && !(constantsAlone 8 u && constantsAlone 8 v)
theorem par_swap {x y : Str} {px py pt p2 : Pos} {k k2 : Nat} {u v : Expr} {env : Env} (h : parB env.scope x y px py u v = true) : swappedStores [.Tuple [.Name x px, .Name y py] k pt] (.Tuple [u, v] k2 p2) env = pure (some [x, y]) := by
  unfold parB at h
  simp only [Bool.and_eq_true] at h
  obtain ⟨⟨⟨⟨⟨⟨⟨⟨⟨h1, h2⟩, h3⟩, h4⟩, h5⟩, h6⟩, h7⟩, h8⟩, h9⟩, h10⟩ := h
  have hk : env.scope.kind = .function := by
    revert h1
    cases env.scope.kind <;> intro h1 <;> first | rfl | cases h1
  have hb : (env.blockKind != .function) = false := by unfold Env.blockKind; rw [hk]; rfl
  have kx : (env.kindOf x == some .local) = true := h2
  have ky : (env.kindOf y == some .local) = true := h3
  have l4 : (py.line == px.line) = true := by rw [beq_iff_eq] at h4 ⊢; exact h4.symm
  have nxy : (x == y) = false := by simpa using h5
  have nyx : (y == x) = false := by simpa using h6
  have su : isStar u = false := by simpa using h7
  have sv : isStar v = false := by simpa using h8
  have f9 : (foldedForSure 8 u && foldedForSure 8 v) = false := Bool.not_eq_true' _ ▸ h9
  have f10 : (constantsAlone 8 u && constantsAlone 8 v) = false := Bool.not_eq_true' _ ▸ h10
  unfold swappedStores
  simp only [pure_bind]
  have stars : ∀ g : Expr → Bool, (∀ e, isStar e = false → g e = false) → [u, v].any g = false := fun g hg => by
    rw [List.any_cons, List.any_cons, List.any_nil, Bool.or_false, hg u su, hg v sv]
    rfl
  rw [stars _ (fun e h => by cases e <;> first | rfl | cases h), hb]
  have e1 : (!([Expr.Name x px, Expr.Name y py].length == 2 || [Expr.Name x px, Expr.Name y py].length == 3) || [u, v].length != [Expr.Name x px, Expr.Name y py].length || false) = false := rfl
  rw [e1]
  simp only [Bool.false_eq_true, if_false, List.head?_cons, Option.map_some, Option.getD_some, List.filterMap_cons, List.filterMap_nil, Expr.pos, kx, ky, l4, beq_self_eq_true, Bool.and_self, Bool.true_and, Bool.and_true, if_true, List.all_cons, List.all_nil, f9, f10]
  have e2 : (List.eraseDups [x, y]).length = 2 := by
    rw [List.eraseDups_cons]
    simp [nyx, List.eraseDups_cons]
  simp [e2]
theorem st_par (g0 : Good0 z X) (hc : X.calm = true) {i j : Nat} {x y : Str} {u v : Expr} {a b : Exp} {px py pt p2 pos : Pos} {k k2 : Nat} (hi : z.N[i]? = some x) (hj : z.N[j]? = some y) (hij : i ≠ j) (hp : parB z.sc x y px py u v = true) (ha : SE X C W ρ u a) (hb : SE X C W ρ v b) :
    PS X (.Assign [.Tuple [.Name x px, .Name y py] k pt] (.Tuple [u, v] k2 p2) pos) (tS C W ρ (exS (.par i j a b) ρ)) := by
  have hp' : parB X.env.scope x y px py u v = true := by rw [g0.hsc]; exact hp
  have hp2 := hp'
  unfold parB at hp2
  simp only [Bool.and_eq_true] at hp2
  obtain ⟨⟨⟨⟨⟨⟨⟨⟨⟨h1, h2⟩, h3⟩, h4⟩, h5⟩, h6⟩, h7⟩, h8⟩, h9⟩, h10⟩ := hp2
  have su : isStar u = false := by simpa using h7
  have sv : isStar v = false := by simpa using h8
  refine (ps_par hc (by rw [g0.hN]; exact g0.nd) (by rw [g0.hN]; exact hi) (by rw [g0.hN]; exact hj) hij (beq_iff_eq.mp h2) (beq_iff_eq.mp h3) (pa_cons ha.e (pa_cons hb.e pa_nil (star_of sv _ _)) (star_of su _ _)) (par_swap hp') rfl).imp fun D σ H q => ?_
  obtain ⟨e, q⟩ := q
  refine ⟨e, sbE e q fun x1 v1 H1 s1 r1 q1 => ⟨e.ext s1, sbE (e.ext s1) q1 fun x2 v2 H2 s2 r2 q2 => ⟨v1, v2, rfl, ?_⟩⟩⟩
  have e2 := (e.ext s1).ext s2
  obtain ⟨k1, k2⟩ := e2.setN i (Rep.mono (hid_same s2) _ _ r1)
  have r2' : Rep C.K C.G (hid (C.S (ρ.set i (.fr x1)) (σ.set i (some v1))) H2) x2 v2 := Rep.mono (hid_sub fun a z => z.imp id ((e2.set' i (Rep.mono (hid_same s2) _ _ r1)).2 a)) _ _ r2
  obtain ⟨k3, k4⟩ := k1.setN j r2'
  exact q2 _ H2 k3 (k2.trans k4)
theorem st_aug (g0 : Good0 z X) {i : Nat} {x : Str} {e : Expr} {c : Exp} {sub : Bool} {p pos : Pos} (n : Nm z i x) (ha : SE X C W ρ e c) : PS X (.AugAssign (.Name x p) (if sub then .Sub else .Add) e pos) (tS C W ρ (exS (.aug i sub c) ρ)) := by
  obtain ⟨l1, l2⟩ := g0.loc n.loc
  have hN : X.N.Nodup := by rw [g0.hN]; exact g0.nd
  have hi : X.N[i]? = some x := by rw [g0.hN]; exact n.ix
  have key : ∀ (D : Ends) (σ : L2.St) (H : Hp), tS C W ρ (exS (.aug i sub c) ρ) D σ H → tAug i (tE C W ρ (evE c ρ)) (ipI fun i j => if sub = true then i - j else i + j) D σ H := fun D σ H q => by
    obtain ⟨e, q⟩ := q
    have q' : SG C W ρ σ H D (match sl ρ i with | .fr x => sb (evE c ρ) ρ fun y => sb (augV sub x y) ρ fun z => .next (ρ.set i (.fr z)) | _ => .stuck) := q
    cases hs : sl ρ i with
    | fr u =>
      rw [hs] at q'
      obtain ⟨w, k1, k2⟩ := e.fr hs
      refine ⟨w, k1, e, sbE e q' fun y v H1 s r q1 => ?_⟩
      cases u with
      | int a =>
        cases y with
        | int b =>
          have e1 : w = .int a := k2
          have e2 : v = .int b := r
          subst e1 e2
          obtain ⟨k3, k4⟩ := (e.ext s).setN i (x := .int (if sub = true then a - b else a + b)) (v := .int (if sub = true then a - b else a + b)) rfl
          exact ⟨a, b, rfl, rfl, q1 _ H1 k3 k4⟩
        | _ => exact False.elim q1
      | _ => exact False.elim q1
    | _ => rw [hs] at q'; exact q'.elim
  cases sub with
  | false => exact (ps_aug hN hi l1 ha.e (ti := ipI fun i j => i + j) ip_add l2).imp key
  | true => exact (ps_aug hN hi l1 ha.e (ti := ipI fun i j => i - j) ip_sub l2).imp key
/-- an own list at a name -/
theorem pe_nm (g0 : Good0 z X) {i : Nat} {x : Str} {p : Pos} (hN : z.N[i]? = some x) (hv : visB z.sc x = true) (hk : okN x = true) : PE X (.Name x p) (tVar i) := by
  unfold okN at hk
  rw [Bool.and_eq_true] at hk
  exact pe_var (by rw [g0.hN]; exact hN) (by rw [g0.hsc]; exact vis_of hv) (by simpa using hk.1) (by simpa using hk.2)
theorem own_lst {i : Nat} {σ : L2.St} {H : Hp} {xs ys : List PV} {a : Addr} {ws : List V} (e : ER C ρ σ H) (hs : sl ρ i = .ow xs) (ea : σ[i]? = some (some (.ref a))) (hB : ¬ C.B a) (h0 : C.H0 a = none) (hz : ys.length ≤ szL) (r : Reps C.K C.G (hid (C.S ρ σ) H) ys ws) :
    ER C (ρ.set i (.ow ys)) σ (upd H a (.lst ws)) ∧ Step ρ σ H (ρ.set i (.ow ys)) σ (upd H a (.lst ws)) := by
  have hi : i < ρ.length := by
    by_cases h : i < ρ.length
    · exact h
    · rw [sl_out (by omega)] at hs
      cases hs
  exact ⟨e.mut hi hs True.intro True.intro ea fun Hd sm => ⟨a, ws, rfl, upd_same, hB, h0, hz, Reps.mono sm _ _ r⟩, Step.mut e hs True.intro True.intro ea⟩
theorem st_app (g0 : Good0 z X) {i : Nat} {x : Str} {v : Expr} {c : Exp} {xp ap p pos : Pos} (hN : z.N[i]? = some x) (hv : visB z.sc x = true) (hk : okN x = true) (hst : isStar v = false) (hl : (ap.endLine == p.line) = true) (ha : SE X C W ρ v c) :
    PS X (.Expr (.Call (.Attribute (.Name x xp) "append" ap) [v] [] p) pos) (tS C W ρ (exS (.app i c) ρ)) := by
  have pe := pe_bm (X := X) (T := "list") (id := "list.append") (name := "append") (apos := ap) (cpos := p) PySem.F.plainAttrs_list PySem.F.slot_list_append PySem.F.type_list_append mt_append (pe_nm g0 (p := xp) hN hv hk) (pa_cons ha.e pa_nil (star_of hst _ _)) rfl (by rw [star_of hst]; rfl) hl (star_of hst _ _) rfl
  refine (ps_expr pe rfl).imp fun D σ H q => ?_
  obtain ⟨e, q⟩ := q
  have q' : SG C W ρ σ H D (match sl ρ i with | .ow xs => sb (evE c ρ) ρ fun v => if xs.length < szL then .next (ρ.set i (.ow (xs ++ [v]))) else .stuck | _ => .stuck) := q
  cases hs : sl ρ i with
  | ow xs =>
    rw [hs] at q'
    obtain ⟨a, vs, h1, h2, h3, h4, h5, h6⟩ := e.ow hs
    refine ⟨.ref a, h1, .inl ⟨rfl, vs, SqL.of h2⟩, e, sbE e q' fun y v H1 s r q1 => ?_⟩
    have q2 : SG C W ρ σ H1 D (if xs.length < szL then .next (ρ.set i (.ow (xs ++ [y]))) else .stuck) := q1
    by_cases hz : xs.length < szL
    · rw [if_pos hz] at q2
      have h6' := Reps.mono (hid_same (S := C.S ρ σ) s) _ _ h6
      obtain ⟨k1, k2⟩ := own_lst (ys := xs ++ [y]) (ws := vs ++ [v]) (e.ext s) hs h1 h3 h4 (by rw [List.length_append, List.length_singleton]; omega) (h6'.append (.cons r .nil))
      exact ⟨a, vs, v, rfl, rfl, s _ _ h2, by rw [h6.len, szL_eq]; exact hz, q2 σ _ k1 k2⟩
    · rw [if_neg hz] at q2
      exact q2.elim
  | _ => rw [hs] at q'; exact q'.elim
theorem asg_plain {o i : Expr} {p : Pos} (hs : isSlice i = false) (env : Env) (v : Value) : assign (.Subscript o i p) env v = (do
      let ov ← holding [v] (eval o env)
      let iv ← holding [v, ov] (eval i env)
      standAt p
      holding [v, ov, iv] (setItem ov iv v)
      release [v, ov, iv] []) := by
  cases i <;> first | rfl | cases hs
theorem ixN_at {α : Type} {xs : List α} {j : Int} {n : Nat} (h : ixN xs.length j = some n) : atI xs j = xs[n]? := by
  unfold atI
  rw [h]
  rfl
theorem st_setI (g0 : Good0 z X) {i : Nat} {x : Str} {k v : Expr} {ck cv : Exp} {xp p pos : Pos} (hN : z.N[i]? = some x) (hv : visB z.sc x = true) (hk : okN x = true) (hsl : isSlice k = false) (hl : isLc v = false) (ha : SE X C W ρ v cv) (hb : SE X C W ρ k ck) :
    PS X (.Assign [.Subscript (.Name x xp) k p] v pos) (tS C W ρ (exS (.setI i ck cv) ρ)) := by
  refine (ps_asg (pos := pos) ha.e (pg_sub (pe_nm g0 (p := xp) hN hv hk) hb.e set_list (asg_plain hsl _)) (show swapsWith v (some (.Subscript (.Name x xp) k p)) pos.line X.env = pure false from swaps_of hl _ _ _) (by cases v <;> rfl) rfl).imp fun D σ H q => ?_
  obtain ⟨e, q⟩ := q
  have q' : SG C W ρ σ H D (match sl ρ i with
    | .ow xs => sb (evE cv ρ) ρ fun v => sb (evE ck ρ) ρ fun j => (match j with
      | .int j => (match ixN xs.length j with
        | some n => .next (ρ.set i (.ow (xs.set n v)))
        | none => .stuck)
      | _ => .stuck)
    | _ => .stuck) := q
  cases hs : sl ρ i with
  | ow xs =>
    rw [hs] at q'
    obtain ⟨a, vs, h1, h2, h3, h4, h5, h6⟩ := e.ow hs
    refine ⟨e, sbE e q' fun y v H1 s r q1 => ⟨.ref a, h1, e.ext s, sbE (e.ext s) q1 fun j w H2 s2 r2 q2 => ?_⟩⟩
    cases j with
    | int j =>
      have e1 : w = .int j := r2
      have q3 : SG C W ρ σ H2 D (match ixN xs.length j with | some n => .next (ρ.set i (.ow (xs.set n y))) | none => .stuck) := q2
      cases hj : ixN xs.length j with
      | none => rw [hj] at q3; exact q3.elim
      | some n =>
        rw [hj] at q3
        have h6' := Reps.mono (hid_same (S := C.S ρ σ) (s.trans s2)) _ _ h6
        have r' := Rep.mono (hid_same (S := C.S ρ σ) s2) _ _ r
        obtain ⟨k1, k2⟩ := own_lst (ys := xs.set n y) (ws := vs.set n v) ((e.ext s).ext s2) hs h1 h3 h4 (by rw [List.length_set]; exact h5) (h6'.set r' n)
        exact ⟨a, vs, j, n, rfl, e1, s2 _ _ (s _ _ h2), by rw [h6.len]; exact hj, q3 σ _ k1 k2⟩
    | _ => exact False.elim q2
  | _ => rw [hs] at q'; exact q'.elim
theorem aug_plain {i : Expr} (hs : isSlice i = false) (ov iv new : Value) : augStore i ov iv new = (do holding [new, ov, iv] (setItem ov iv new); release [new, ov, iv] []; pure .next) := by
  cases i <;> first | rfl | cases hs
theorem st_augI (g0 : Good0 z X) {i : Nat} {x : Str} {k v : Expr} {ck cv : Exp} {sub : Bool} {xp p pos : Pos} (hN : z.N[i]? = some x) (hv : visB z.sc x = true) (hk : okN x = true) (hsl : isSlice k = false) (ha : SE X C W ρ v cv) (hb : SE X C W ρ k ck) :
    PS X (.AugAssign (.Subscript (.Name x xp) k p) (if sub then .Sub else .Add) v pos) (tS C W ρ (exS (.augI i ck sub cv) ρ)) := by
  have key : ∀ (D : Ends) (σ : L2.St) (H : Hp), tS C W ρ (exS (.augI i ck sub cv) ρ) D σ H → tAugS (tVar i) (tE C W ρ (evE ck ρ)) (tE C W ρ (evE cv ρ)) rGetL (ipI fun i j => if sub = true then i - j else i + j) rSetL D σ H := fun D σ H q => by
    obtain ⟨e, q⟩ := q
    have q' : SG C W ρ σ H D (match sl ρ i with
    | .ow xs => sb (evE ck ρ) ρ fun j => (match j with
      | .int j => (match ixN xs.length j with
        | some n => (match xs[n]? with
          | some x => sb (evE cv ρ) ρ fun y => sb (augV sub x y) ρ fun z => .next (ρ.set i (.ow (xs.set n z)))
          | none => .stuck)
        | none => .stuck)
      | _ => .stuck)
    | _ => .stuck) := q
    cases hs : sl ρ i with
    | ow xs =>
      rw [hs] at q'
      obtain ⟨a, vs, h1, h2, h3, h4, h5, h6⟩ := e.ow hs
      refine ⟨.ref a, h1, e, sbE e q' fun j w H1 s r2 q2 => ?_⟩
      cases j with
      | int j =>
        have e1 : w = .int j := r2
        have q3 : SG C W ρ σ H1 D (match ixN xs.length j with
          | some n => (match xs[n]? with
            | some x => sb (evE cv ρ) ρ fun y => sb (augV sub x y) ρ fun z => .next (ρ.set i (.ow (xs.set n z)))
            | none => .stuck)
          | none => .stuck) := q2
        cases hj : ixN xs.length j with
        | none => rw [hj] at q3; exact q3.elim
        | some n =>
          rw [hj] at q3
          have q4 : SG C W ρ σ H1 D (match xs[n]? with
            | some x => sb (evE cv ρ) ρ fun y => sb (augV sub x y) ρ fun z => .next (ρ.set i (.ow (xs.set n z)))
            | none => .stuck) := q3
          cases hx : xs[n]? with
          | none => rw [hx] at q4; exact q4.elim
          | some u =>
            rw [hx] at q4
            have h6' := Reps.mono (hid_same (S := C.S ρ σ) s) _ _ h6
            obtain ⟨uv, k1, k2⟩ := h6'.get hx
            refine ⟨a, vs, j, uv, rfl, e1, s _ _ h2, by rw [ixN_at (n := n) (by rw [h6.len]; exact hj)]; exact k1, e.ext s, sbE (e.ext s) q4 fun y v H2 s2 r q5 => ?_⟩
            cases u with
            | int m =>
              cases y with
              | int n2 =>
                have e2 : uv = .int m := k2
                have e3 : v = .int n2 := r
                have h6'' := Reps.mono (hid_same (S := C.S ρ σ) s2) _ _ h6'
                obtain ⟨k3, k4⟩ := own_lst (ys := xs.set n (.int (if sub = true then m - n2 else m + n2))) (ws := vs.set n (.int (if sub = true then m - n2 else m + n2))) ((e.ext s).ext s2) hs h1 h3 h4 (by rw [List.length_set]; exact h5) (h6''.set (x := .int (if sub = true then m - n2 else m + n2)) rfl n)
                exact ⟨m, n2, e2, e3, a, vs, j, n, rfl, e1, s2 _ _ (s _ _ h2), by rw [h6.len]; exact hj, q5 σ _ k3 k4⟩
              | _ => exact False.elim q5
            | _ => exact False.elim q5
      | _ => exact False.elim q2
    | _ => rw [hs] at q'; exact q'.elim
  cases sub with
  | false => exact (ps_augS (pe_nm g0 (p := xp) hN hv hk) hb.e pget_list ha.e (tip := ipI fun i j => i + j) ip_add set_list (aug_plain hsl)).imp key
  | true => exact (ps_augS (pe_nm g0 (p := xp) hN hv hk) hb.e pget_list ha.e (tip := ipI fun i j => i - j) ip_sub set_list (aug_plain hsl)).imp key
theorem putF_zip {f : Str} {v : V} : ∀ {fs : List Str} {vs : List V}, fs.Nodup → fs[vs.length]? = some f → putF f v (fs.zip vs) = fs.zip (vs ++ [v])
  | [], vs, _, h => by simp at h
  | g :: fs, [], nd, h => by
    simp only [List.length_nil, List.getElem?_cons_zero, Option.some.injEq] at h
    subst h
    simp [putF]
  | g :: fs, w :: vs, nd, h => by
    rw [List.nodup_cons] at nd
    simp only [List.length_cons, List.getElem?_cons_succ] at h
    have ne : g ≠ f := fun e => nd.1 (by rw [e]; exact List.mem_of_getElem? h)
    show (if g = f then (g, v) :: fs.zip vs else (g, w) :: putF f v (fs.zip vs)) = _
    rw [if_neg ne, putF_zip nd.2 h]
    rfl
theorem st_setF (g0 : Good0 z X) (gc : GoodC z X C) {i c k : Nat} {x f : Str} {v : Expr} {cv : Exp} {xp p pos : Pos} (hN : z.N[i]? = some x) (hv : visB z.sc x = true) (hk : okN x = true) (hl : isLc v = false) (hC : Cls z.K (z.G.cl c)) (hA : NoAttr z.K (z.G.cl c) f) (hf : (z.G.fld c)[k]? = some f) (nd : (z.G.fld c).Nodup) (hn : (z.G.fld c).length < 1000)
    (ha : SE X C W ρ v cv) : PS X (.Assign [.Attribute (.Name x xp) f p] v pos) (tS C W ρ (exS (.setF i c k f cv) ρ)) := by
  refine (ps_fld (pe_nm g0 (p := xp) hN hv hk) ha.e (swaps_of hl _ _ _)).imp fun D σ H q => ?_
  obtain ⟨e, q⟩ := q
  have q' : SG C W ρ σ H D (match sl ρ i with | .oo c' nf xs => if c' = c ∧ xs.length = k ∧ k < nf then sb (evE cv ρ) ρ fun v => .next (ρ.set i (.oo c nf (xs ++ [v]))) else .stuck | _ => .stuck) := q
  cases hs : sl ρ i with
  | oo c' nf xs =>
    rw [hs] at q'
    have q2 : SG C W ρ σ H D (if c' = c ∧ xs.length = k ∧ k < nf then sb (evE cv ρ) ρ fun v => .next (ρ.set i (.oo c nf (xs ++ [v]))) else .stuck) := q'
    by_cases hcd : c' = c ∧ xs.length = k ∧ k < nf
    · rw [if_pos hcd] at q2
      obtain ⟨rfl, rfl, hlt⟩ := hcd
      obtain ⟨a, dx, vs, h1, h2, h3, h4, h5, h6⟩ := e.oo hs
      refine ⟨e, sbE e q2 fun y v H1 s r q3 => ⟨.ref a, h1, a, _, dx, _, rfl, s _ _ h2, ?_, ?_, ?_, ?_⟩⟩
      · rw [gc.hG, g0.hK]; exact hC
      · rw [gc.hG, g0.hK]; exact hA
      · rw [List.length_zip, gc.hG]; have := h5.1; omega
      · have h6' := Reps.mono (hid_same (S := C.S ρ σ) s) _ _ h6
        have hvl := h6.len
        rw [putF_zip (by rw [gc.hG]; exact nd) (by rw [gc.hG, hvl]; exact hf)]
        have hi : i < ρ.length := by
          by_cases h : i < ρ.length
          · exact h
          · rw [sl_out (by omega)] at hs
            cases hs
        have e1 := e.ext s
        refine q3 σ _ (e1.mut (o := .ins (C.G.cl c') dx ((C.G.fld c').zip (vs ++ [v]))) hi hs True.intro True.intro h1 fun Hd sm => ?_) (Step.mut e1 hs True.intro True.intro h1)
        exact ⟨a, dx, vs ++ [v], rfl, upd_same, h3, h4, ⟨h5.1, by rw [List.length_append, List.length_singleton]; have := h5.2.1; omega, h5.2.2⟩, Reps.mono sm _ _ (h6'.append (.cons r .nil))⟩
    · rw [if_neg hcd] at q2
      exact q2.elim
  | _ => rw [hs] at q'; exact q'.elim
/-! leaving -/
theorem ret_of {σ : L2.St} {H : Hp} (e : ER C ρ σ H) {x : PV} {v : V} {H1 : Hp} (s : Same H H1) (r : Rep C.K C.G (hid (C.S ρ σ) H1) x v) : RetOk C false x v H1 :=
  ⟨e.le0.trans s, Rep.mono (hid_sub fun a z => .inl z) _ _ r, fun h => by cases h⟩
theorem ret_fresh {σ : L2.St} {H : Hp} (e : ER C ρ σ H) {xs : List PV} {vs : List V} {p : Addr} {H1 : Hp} (s : Same H H1) (np : H p = none) (hp : H1 p = some (.lst vs)) (hz : xs.length ≤ szL) (r : Reps C.K C.G (hid (fun a => C.S ρ σ a ∨ a = p) H1) xs vs) : RetOk C true (.lst xs) (.ref p) H1 := by
  have nB : ¬ C.B p := fun z => by
    obtain ⟨o, q⟩ := e.bin p z
    rw [np] at q
    cases q
  have n0 : C.H0 p = none := by
    cases h : C.H0 p with
    | none => rfl
    | some o =>
      have := e.le0 _ _ h
      rw [np] at this
      cases this
  have r2 : Reps C.K C.G (hid (fun a => C.B a ∨ a = p) H1) xs vs := Reps.mono (hid_sub fun a z => z.imp .inl id) _ _ r
  exact ⟨e.le0.trans s, ⟨p, vs, rfl, hid_some.mpr ⟨nB, hp⟩, hz, Reps.mono (hid_sub fun a z => .inl z) _ _ r2⟩, fun _ => ⟨xs, p, vs, rfl, rfl, n0, hp, hz, r2⟩⟩
theorem st_ret {v : Expr} {c : Exp} {p : Pos} (ha : SE X C W ρ v c) : PS X (.Return (some v) p) (tS C W ρ (exS (.ret c) ρ)) := (ps_ret ha.e).imp fun D σ H q => by
  obtain ⟨e, q⟩ := q
  exact ⟨e, sbE e q fun x v H1 s r q1 => q1 v H1 (ret_of e s r)⟩
theorem st_retF {v : Expr} {c : Exp} {p : Pos} (hf : isF c = true) (ha : SE X C W ρ v c) : PS X (.Return (some v) p) (tS C W ρ (exS (.retF c) ρ)) := (ps_ret (ha.m true fun _ => hf)).imp fun D σ H q => by
  obtain ⟨e, q⟩ := q
  refine ⟨e, ?_⟩
  show EVf C W (C.S ρ σ) (evE c ρ) σ H D.rt
  refine sbF e q (fun x => ?_) fun xs p vs H1 s np hp hz r q1 => q1 (.ref p) H1 (ret_fresh e s np hp hz r)
  cases x <;> first | exact .inl ⟨_, rfl⟩ | exact .inr rfl
theorem st_retO (g0 : Good0 z X) {i : Nat} {x : Str} {xp p : Pos} (hN : z.N[i]? = some x) (hv : visB z.sc x = true) (hk : okN x = true) : PS X (.Return (some (.Name x xp)) p) (tS C W ρ (exS (.retO i) ρ)) := (ps_ret (pe_nm g0 hN hv hk)).imp fun D σ H q => by
  obtain ⟨e, q⟩ := q
  have q' : SG C W ρ σ H D (match sl ρ i with | .ow xs => .ret true (.lst xs) | _ => .stuck) := q
  cases hs : sl ρ i with
  | ow xs =>
    rw [hs] at q'
    obtain ⟨a, vs, h1, h2, h3, h4, h5, h6⟩ := e.ow hs
    have oa : own ρ σ a := ⟨i, by rw [hs]; exact True.intro, h1⟩
    have r2 : Reps C.K C.G (hid (fun b => C.B b ∨ b = a) H) xs vs := Reps.mono (hid_sub fun b z => z.imp id fun z => by rw [z]; exact oa) _ _ h6
    exact ⟨.ref a, h1, q' (.ref a) H ⟨e.le0, ⟨a, vs, rfl, hid_some.mpr ⟨h3, h2⟩, h5, Reps.mono (hid_sub fun b z => .inl z) _ _ r2⟩, fun _ => ⟨xs, a, vs, rfl, rfl, h4, h2, h5, r2⟩⟩⟩
  | _ => rw [hs] at q'; exact q'.elim
theorem st_retN {p : Pos} : PS X (.Return none p) (tS C W ρ (exS .retN ρ)) := ps_retN.imp fun D σ H q => q.2 .non H ⟨q.1.le0, rfl, fun h => by cases h⟩
theorem st_brk {p : Pos} : PS X (.Break p) (tS C W ρ (exS .brk ρ)) := ps_break.imp fun D σ H q => q.2 σ H q.1 Step.refl
theorem st_cont {p : Pos} : PS X (.Continue p) (tS C W ρ (exS .cont ρ)) := ps_continue.imp fun D σ H q => q.2 σ H q.1 Step.refl
/-- what a class must be to be raised -/
def RaiseC (K : PySem.W.Frag) (C : Addr) : Prop := ∃ (B newId initId : String) (bmB : List Value), ExcBaseFacts B newId initId bmB ∧ PySem.W.excIn K C bmB newId = true ∧ PySem.W.keepIn K (.ref C) = true ∧ PySem.W.subIn K (.ref C) (.type "BaseException") = some true ∧ PySem.W.typeIn K (.ref C) = some (.type "type")
theorem st_raise (g0 : Good0 z X) (gc : GoodC z X C) (g1 : Good1 z X W) {x m : Str} {c j : Nat} {f : Expr} {p2 p pos : Pos} (hg : glN z.sc x f = true) (hm : z.mg x = some (.ref (z.G.cl c))) (hr : RaiseC z.K (z.G.cl c)) :
    PS X (.Raise (some (.Call f [.Constant (.str m) j p2] [] p)) none pos) (tS C W ρ (exS (.raise x c) ρ)) := by
  cases f with
  | Name y py =>
    have hg' : (decide (y = x) && glB z.sc x) = true := hg
    rw [Bool.and_eq_true, decide_eq_true_eq] at hg'
    obtain ⟨rfl, h2⟩ := hg'
    obtain ⟨h3, h4⟩ := g0.gl h2
    obtain ⟨B, nI, iI, bm, F, q1, q2, q3, q4⟩ := hr
    rw [← g0.hK] at q1 q2 q3 q4
    refine (ps_raise g1.calm g1.tk (pmk_own F q1 (by rw [g0.hmg]; exact hm) q2 (raises_own q3 q4) h3 h4)).imp fun D σ H q => ?_
    exact ⟨c, rfl, rfl, q.2 σ H q.1 Step.refl⟩
  | _ => cases hg
end
end MP

/-! MP, part 12: loops, try; every statement keeps its meaning. -/
namespace MP
open PySem PySem.Spec PyProof.Rows L2

section
variable {z : Cz} {X : Cx} {W : Wh} {C : Cfg} {ρ : Env'}
theorem st_ite {t : Expr} {c : Exp} {a b : Cmds} {p q : List Stmt} {pos : Pos} (ni : isIte c = false) (hc : SE X C W ρ t c) (ha : PSs X p (tS C W ρ (exSs a ρ))) (hb : PSs X q (tS C W ρ (exSs b ρ))) : PS X (.If t p q pos) (tS C W ρ (exS (.ite c a b) ρ)) :=
  (ps_if (hc.b ni) ha hb).imp fun D σ H q => by
    obtain ⟨e, q⟩ := q
    refine ⟨e, sbB e q fun k H1 s q1 => ?_⟩
    have q2 : SG C W ρ σ H1 D (if k = true then exSs a ρ else exSs b ρ) := q1
    cases k with
    | true => exact ⟨e.ext s, q2⟩
    | false => exact ⟨e.ext s, q2⟩
theorem st_while (g1 : Good1 z X W) {t : Expr} {fuel : Env' → Nat} {c : Exp} {body : Cmds} {b : List Stmt} {pos : Pos} (ni : isIte c = false) (hc : ∀ ρ, SE X C W ρ t c) (hb : ∀ ρ, PSs X b (tS C W ρ (exSs body ρ))) : PS X (.While t b [] pos) (tS C W ρ (exS (.while_ fuel c body) ρ)) := by
  have hT : PT X t (fun σ H Q => ∃ ρ, tTb C W ρ ((evE c ρ).bnd truR) σ H Q) := PT.ex fun ρ => (hc ρ).b ni
  have hB : PSs X b (fun D σ H => ∃ ρ, tS C W ρ (exSs body ρ) D σ H) := PSs.ex fun ρ => hb ρ
  refine (ps_while g1.pass hT hB).imp fun D σ H q => ?_
  obtain ⟨e, q⟩ := q
  have q0 : SG C W ρ σ H D (whileR (fun ρ => (evE c ρ).bnd truR) (fun ρ => exSs body ρ) (fuel ρ) ρ) := q
  refine ⟨fun m σ' H' => ∃ ρ', ER C ρ' σ' H' ∧ Step ρ σ H ρ' σ' H' ∧ SG C W ρ' σ' H' D (whileR (fun ρ => (evE c ρ).bnd truR) (fun ρ => exSs body ρ) m ρ'), ⟨fuel ρ, ρ, e, Step.refl, q0⟩, ?_⟩
  rintro m σ1 H1 ⟨ρ1, e1, s1, q1⟩
  cases m with
  | zero => exact q1.elim
  | succ m =>
    have q2 : SG C W ρ1 σ1 H1 D (match (evE c ρ1).bnd truR with
      | .ok true => (match exSs body ρ1 with
        | .next ρ2 => whileR (fun ρ => (evE c ρ).bnd truR) (fun ρ => exSs body ρ) m ρ2
        | .cont ρ2 => whileR (fun ρ => (evE c ρ).bnd truR) (fun ρ => exSs body ρ) m ρ2
        | .brk ρ2 => .next ρ2
        | r => r)
      | .ok false => .next ρ1
      | .exc k => .exc k ρ1
      | .stuck => .stuck) := q1
    refine ⟨ρ1, e1, ?_⟩
    cases hv : (evE c ρ1).bnd truR with
    | stuck => rw [hv] at q2; exact q2.elim
    | exc k =>
      rw [hv] at q2
      exact fun H2 s => q2 σ1 H2 (e1.ext s) (Step.ext s)
    | ok k =>
      rw [hv] at q2
      intro H2 s
      cases k with
      | false => exact q2 σ1 H2 (e1.ext s) (Step.ext s)
      | true =>
        have e2 := e1.ext s
        have t2 : Step ρ σ H ρ1 σ1 H2 := s1.trans (Step.ext s)
        have q3 := SG.step (C := C) (W := W) (D := D) (r := match exSs body ρ1 with
          | .next ρ2 => whileR (fun ρ => (evE c ρ).bnd truR) (fun ρ => exSs body ρ) m ρ2
          | .cont ρ2 => whileR (fun ρ => (evE c ρ).bnd truR) (fun ρ => exSs body ρ) m ρ2
          | .brk ρ2 => .next ρ2
          | r => r) q2 (Step.ext (ρ := ρ1) (σ := σ1) s)
        refine ⟨fun σ' H' => ∃ ρ', ER C ρ' σ' H' ∧ Step ρ σ H ρ' σ' H' ∧ SG C W ρ' σ' H' D (whileR (fun ρ => (evE c ρ).bnd truR) (fun ρ => exSs body ρ) m ρ'), fun σ' H' h => ⟨m, Nat.lt_succ_self _, h⟩, ρ1, e2, ?_⟩
        cases hb' : exSs body ρ1 with
        | next ρ2 =>
          rw [hb'] at q3
          exact fun σ3 H3 e3 t3 => ⟨ρ2, e3, t2.trans t3, q3.step t3⟩
        | cont ρ2 =>
          rw [hb'] at q3
          exact fun σ3 H3 e3 t3 => ⟨ρ2, e3, t2.trans t3, q3.step t3⟩
        | brk ρ2 => rw [hb'] at q3; exact q3
        | ret f v => rw [hb'] at q3; exact q3
        | exc k ρ2 => rw [hb'] at q3; exact q3
        | stuck => rw [hb'] at q3; exact q3
theorem st_for (g1 : Good1 z X W) {t i : Expr} {tg : Tgt} {it : Itx} {body : Cmds} {b : List Stmt} {pos : Pos} (hset : ∀ x, foldedSetIterable i X.env x = pure x) (hi : PI X t i (tJ C W ρ false (evI it ρ false))) (hg : ∀ ρ x, PG X t (tG C ρ tg x)) (hb : ∀ ρ, PSs X b (tS C W ρ (exSs body ρ))) :
    PS X (.For t i b [] pos) (tS C W ρ (exS (.for_ tg it body) ρ)) := by
  have hG : PG X t (fun v σ H Q => ∃ q : Env' × PV, tG C q.1 tg q.2 v σ H Q) := PG.ex fun q => hg q.1 q.2
  have hB : PSs X b (fun D σ H => ∃ ρ, tS C W ρ (exSs body ρ) D σ H) := PSs.ex fun ρ => hb ρ
  refine (ps_for g1.pass g1.calm hi hG hB hset).imp fun D σ H q => ?_
  obtain ⟨e, q⟩ := q
  refine ⟨e, ?_⟩
  have q0 : SG C W ρ σ H D (sb (evI it ρ false) ρ fun xs => forR (fun ρ => exSs body ρ) tg xs ρ) := q
  cases hit : evI it ρ false with
  | stuck => rw [hit] at q0; exact q0.elim
  | exc k =>
    rw [hit] at q0
    exact fun H2 s => q0 σ H2 (e.ext s) (Step.ext s)
  | ok xs =>
    rw [hit] at q0
    have q1 : SG C W ρ σ H D (forR (fun ρ => exSs body ρ) tg xs ρ) := q0
    intro J H1 s1 hz okJ
    obtain ⟨Gp, Y, w, hGp, hY⟩ := okJ
    have e1 := e.ext s1
    have kp : ∀ {ρ' : Env'} {σ' : L2.St} {H' : Hp}, ER C ρ' σ' H' → Step ρ σ H1 ρ' σ' H' → Same (hid (C.S ρ σ) H1) (hid (C.S ρ' σ') H') := fun {ρ' σ' H'} e' t a o q => by
      obtain ⟨k1, k2⟩ := hid_some.mp q
      refine hid_some.mpr ⟨fun z => ?_, t.keep a o k2 fun z => k1 (.inr z)⟩
      rcases z with z | z
      · exact k1 (.inl z)
      · rcases t.newo a z with z | z
        · exact k1 (.inr z)
        · rw [z] at k2; cases k2
    refine for_it (g := fun v σ H Q => ∃ q : Env' × PV, tG C q.1 tg q.2 v σ H Q) (tb := fun D σ H => ∃ ρ, tS C W ρ (exSs body ρ) D σ H) (D := D) (σ := σ) (H := H1) w (fun i σ' H' => ∃ ρ', ER C ρ' σ' H' ∧ Step ρ σ H1 ρ' σ' H' ∧ SG C W ρ' σ' H' D (forR (fun ρ => exSs body ρ) tg (xs.drop i) ρ')) ?_ ?_ ?_ ?_
    · exact ⟨ρ, e1, Step.refl, q1.step (Step.ext s1)⟩
    · rintro i σ' H' _ ⟨ρ', e', t', _⟩
      exact hGp H' ((kp e' t').trans hid_le)
    · rintro i v σ2 H2 H3 hi' ⟨ρ2, e2, t2, q2⟩ y
      obtain ⟨s3, px, x1, x2⟩ := hY i H2 v H3 (C.S ρ2 σ2) hi' y e2.inS (kp e2 t2)
      have hd : xs.drop i = px :: xs.drop (i + 1) := by
        obtain ⟨hlt, h1⟩ := List.getElem?_eq_some_iff.mp x1
        rw [← h1]
        exact List.drop_eq_getElem_cons hlt
      rw [hd] at q2
      have q3 : SG C W ρ2 σ2 H2 D (match bindT tg px ρ2 with
        | none => .stuck
        | some ρ1 => (match exSs body ρ1 with
          | .next ρ2 => forR (fun ρ => exSs body ρ) tg (xs.drop (i + 1)) ρ2
          | .cont ρ2 => forR (fun ρ => exSs body ρ) tg (xs.drop (i + 1)) ρ2
          | .brk ρ2 => .next ρ2
          | r => r)) := q2
      refine ⟨(ρ2, px), e2.ext s3, x2, ?_⟩
      cases hbt : bindT tg px ρ2 with
      | none => rw [hbt] at q3; exact q3.elim
      | some ρ3 =>
        rw [hbt] at q3
        intro σ3 e3 _ os
        have t3 : Step ρ2 σ2 H2 ρ3 σ3 H3 := Step.less s3 os
        have t13 := t2.trans t3
        have q4 := SG.step (C := C) (W := W) (D := D) (r := match exSs body ρ3 with
          | .next ρ2 => forR (fun ρ => exSs body ρ) tg (xs.drop (i + 1)) ρ2
          | .cont ρ2 => forR (fun ρ => exSs body ρ) tg (xs.drop (i + 1)) ρ2
          | .brk ρ2 => .next ρ2
          | r => r) q3 t3
        refine ⟨ρ3, e3, ?_⟩
        cases hb' : exSs body ρ3 with
        | next ρ4 =>
          rw [hb'] at q4
          exact fun σ5 H5 e5 t5 => ⟨ρ4, e5, t13.trans t5, q4.step t5⟩
        | cont ρ4 =>
          rw [hb'] at q4
          exact fun σ5 H5 e5 t5 => ⟨ρ4, e5, t13.trans t5, q4.step t5⟩
        | brk ρ4 => rw [hb'] at q4; exact q4
        | ret f v => rw [hb'] at q4; exact q4
        | exc k ρ4 => rw [hb'] at q4; exact q4
        | stuck => rw [hb'] at q4; exact q4
    · rintro σ' H' ⟨ρ', e', t', q'⟩
      rw [List.drop_length] at q'
      exact q' σ' H' e' Step.refl
abbrev Cfg.wx (C : Cfg) (a : Addr) (c : Nat) : Cfg := { C with xa := some (a, c) }
theorem ER.wx {σ : L2.St} {H : Hp} (e : ER C ρ σ H) (hx : C.xa = none) (a : Addr) (c i : Nat) : ER (C.wx a c) (ρ.set i (.ex c)) (σ.set i (some (.ref a))) H := by
  have o : ∀ b, own (ρ.set i (.ex c)) (σ.set i (some (.ref a))) b → own ρ σ b := fun b => by
    by_cases hi : i < ρ.length
    · exact own_set (s := .ex c) (fun q => q) hi b
    · rw [set_self (by omega), List.set_eq_of_length_le (by rw [← e.len]; omega)]
      exact id
  have sm : Same (hid (C.S ρ σ) H) (hid ((C.wx a c).S (ρ.set i (.ex c)) (σ.set i (some (.ref a)))) H) := hid_sub fun b z => z.imp id (o b)
  have keep : ∀ j, SlotRep (C.wx a c) H (hid ((C.wx a c).S (ρ.set i (.ex c)) (σ.set i (some (.ref a)))) H) (sl ρ j) σ[j]? := fun j => by
    cases hs : sl ρ j with
    | un => exact trivial
    | fr x =>
      obtain ⟨w, h1, h2⟩ := e.fr hs
      exact ⟨w, h1, Rep.mono sm _ _ h2⟩
    | ow xs =>
      obtain ⟨b, ws, h1, h2, h3, h4, h5, h6⟩ := e.ow hs
      exact ⟨b, ws, h1, h2, h3, h4, h5, Reps.mono sm _ _ h6⟩
    | oo c' nf xs =>
      obtain ⟨b, dx, ws, h1, h2, h3, h4, h5, h6⟩ := e.oo hs
      exact ⟨b, dx, ws, h1, h2, h3, h4, h5, Reps.mono sm _ _ h6⟩
    | ex c' =>
      have h := e.at_ j
      rw [hs] at h
      obtain ⟨b, h1, _⟩ := h
      rw [hx] at h1
      cases h1
  refine ⟨by rw [List.length_set, List.length_set]; exact e.len, fun j => ?_, fun j k b h1 h2 => ?_, e.le0, e.bin⟩
  · by_cases ej : i = j
    · subst ej
      by_cases hi : i < ρ.length
      · rw [sl_set_eq hi, List.getElem?_set_self (by rw [← e.len]; exact hi)]
        exact ⟨a, rfl, rfl⟩
      · have k := keep i
        rw [set_self (by omega), List.set_eq_of_length_le (by rw [← e.len]; omega)] at k ⊢
        exact k
    · have k := keep j
      rw [sl_set_ne ej, List.getElem?_set_ne ej]
      exact k
  · have back : ∀ {j}, ownAt (ρ.set i (.ex c)) (σ.set i (some (.ref a))) j b → ownAt ρ σ j b := fun {j} ⟨z1, z2⟩ => by
      by_cases ej : i = j
      · subst ej
        by_cases hi : i < ρ.length
        · rw [sl_set_eq hi] at z1
          exact z1.elim
        · rw [set_self (by omega)] at z1
          rw [List.set_eq_of_length_le (by rw [← e.len]; omega)] at z2
          exact ⟨z1, z2⟩
      · rw [sl_set_ne ej] at z1
        rw [List.getElem?_set_ne ej] at z2
        exact ⟨z1, z2⟩
    exact e.nd j k b (back h1) (back h2)
theorem st_try (g0 : Good0 z X) (gc : GoodC z X C) (g1 : Good1 z X W) (hx : C.xa = none) (hs : X.stack = X.env :: X.outer) (hf : X.env.frame = some X.env.locals) {body h : Cmds} {x n : Str} {tab : List (Nat × Bool)} {i k : Nat} {b : List Stmt} {b0 : Stmt} {suite : List Stmt} {np pos pos' : Pos} {d : Addr}
    (hN : z.N[i]? = some n) (hl : z.sc.names.lookup n = some .local) (hg : glB z.sc x = true) (hm : z.mg x = some (.ref d)) (htab : ∀ p ∈ tab, ExcC z.K (z.G.cl p.1) ∧ PySem.W.exmOne z.K (.ref (z.G.cl p.1)) (.ref d) = some p.2)
    (hb : ∀ (Wx : WX) (pn : List (Addr × Obj)) (xe : Value → Shared → Prop), Takes (X.tr pn xe) Wx → PassesOwn (model X.prog X.w) X.A X.env xe → PSs (X.tr pn xe) b (tS C (fun c σ H => Wx (.ref (z.G.cl c)) none σ H) ρ (exSs body ρ)))
    (hh : ∀ (a : Addr) (oe : Obj) (pn : List (Addr × Obj)) (c : Nat) (ρ : Env'), CallR (X.suite a ((a, oe) :: pn)) (.builtin "isinstance") (rIsE X.K (z.G.cl c) a) → PSs (X.suite a ((a, oe) :: pn)) (b0 :: suite) (tS (C.wx a c) W0 ρ (exSs h ρ))) :
    PS X (.Try b [.ExceptHandler (some (.Name x np)) (some n) (b0 :: suite) pos'] [] [] pos) (tS C W ρ (exS (.try_ body x k tab i h) ρ)) := by
  obtain ⟨h3, h4⟩ := g0.gl hg
  let ts : Addr → Value → Option Addr → TS := fun a cls d D σ H => ∃ q : Nat × Env', (cls = .ref (z.G.cl q.1) ∧ d = none ∧ ExcC z.K (z.G.cl q.1)) ∧ tS (C.wx a q.1) W0 q.2 (exSs h q.2) D σ H
  refine (ps_try_as hs hf (by rw [g0.hN]; exact g0.nd) (by rw [g0.hN]; exact hN) (show X.env.scope.names.lookup n = some .local by rw [g0.hsc]; exact hl) (c := .ref d) ⟨h3, h4, .inl (by rw [g0.hmg]; exact hm)⟩ g1.tk
    (tb := fun Wx => tS C (fun c σ H => Wx (.ref (z.G.cl c)) none σ H) ρ (exSs body ρ)) hb (ts := ts) (fun a oe cls dd pn hz hfl => PSs.ex fun q => PSs.given fun hq => ?_)).imp fun D σ H q => ?_
  · obtain ⟨q1, q2, q3⟩ := hq
    subst q1 q2
    rw [← g0.hK] at q3
    exact hh a oe pn q.1 q.2 (call_isE q3 hz hfl)
  · obtain ⟨e, q⟩ := q
    refine ⟨e, ?_⟩
    have q0 : SG C W ρ σ H D (match exSs body ρ with
      | .exc c ρ1 => (match tab.lookup c with
        | some true => (match exSs h (ρ1.set i (.ex c)) with
          | .ret f v => .ret f v
          | _ => .stuck)
        | some false => .exc c ρ1
        | none => .stuck)
      | r => r) := q
    cases hbd : exSs body ρ with
    | next ρ1 => rw [hbd] at q0; exact q0
    | brk ρ1 => rw [hbd] at q0; exact q0
    | cont ρ1 => rw [hbd] at q0; exact q0
    | ret f v => rw [hbd] at q0; exact q0
    | stuck => rw [hbd] at q0; exact q0
    | exc c ρ1 =>
      rw [hbd] at q0
      intro σ1 H1 e1 t1
      have q1 : SG C W ρ σ H D (match tab.lookup c with
        | some true => (match exSs h (ρ1.set i (.ex c)) with
          | .ret f v => .ret f v
          | _ => .stuck)
        | some false => .exc c ρ1
        | none => .stuck) := q0
      cases hlk : tab.lookup c with
      | none => rw [hlk] at q1; exact q1.elim
      | some bb =>
        obtain ⟨x1, x2⟩ := htab _ (lookup_mem hlk)
        rw [← g0.hK] at x2
        refine ⟨bb, x2, fun hbb a na => ?_, fun hbb => ?_⟩
        · subst hbb
          rw [hlk] at q1
          have q2 : SG C W ρ σ H D (match exSs h (ρ1.set i (.ex c)) with
            | .ret f v => .ret f v
            | _ => .stuck) := q1
          refine ⟨(c, ρ1.set i (.ex c)), ⟨rfl, rfl, x1⟩, e1.wx hx a c i, ?_⟩
          cases hhd : exSs h (ρ1.set i (.ex c)) with
          | ret f v =>
            rw [hhd] at q2
            exact fun v' H2 r => q2 v' H2 ⟨r.le, r.rep, r.fresh⟩
          | _ => rw [hhd] at q2; exact q2.elim
        · subst hbb
          rw [hlk] at q1
          exact ⟨c, rfl, rfl, q1 σ1 H1 e1 t1⟩
end
end MP

/-! MP, part 13: the check of statements; every block keeps its meaning. -/
namespace MP
open PySem PySem.Spec PyProof.Rows L2

def lcLine (N : List Str) (sc : Scope) (x : Str) (px : Pos) (e : Expr) : Bool := match e with
  | .ListComp _ _ scope p => (match sc.kind with | .function => true | _ => false) && decide (sc.names.lookup x = some .local) && (px.line == p.line) && !(scope.names.any fun (n, k) => n == x && (k == .local || k == .cell))
  | _ => true
def nmB (N : List Str) (sc : Scope) (i : Nat) (x : Str) : Bool := decide (N[i]? = some x) && visB sc x && okN x
def isLcE : Exp → Bool
  | .comp _ _ _ _ _ => true
  | _ => false
mutual
def cfS : Cmd → Bool
  | .skip => true | .set _ e => cfE e | .ite c a b => cfE c && cfSs a && cfSs b | .ret e => cfE e | .retF e => cfE e | .retO _ => true | .retN => true
  | _ => false
def cfSs : Cmds → Bool
  | .nil => true
  | .cons c cs => cfS c && cfSs cs
end
mutual
def chkS (N : List Str) (sc : Scope) (fnb : Str → Bool) : Cmd → Stmt → Bool
  | .skip, s => (match s with
    | .Pass _ => true
    | .Expr (.Constant (.str _) _ _) _ => true
    | _ => false)
  | .expr e, s => (match s with
    | .Expr x _ => chkE N sc e x && !isLc x
    | _ => false)
  | .set i e, s => (match s with
    | .Assign [.Name x px] v _ => decide (N[i]? = some x) && locB sc fnb x && chkE N sc e v && (isLcE e || !isLc v) && lcLine N sc x px v
    | _ => false)
  | .setO i e, s => (match s with
    | .Assign [.Name x px] v _ => decide (N[i]? = some x) && locB sc fnb x && chkE N sc e v && (isLcE e || !isLc v) && lcLine N sc x px v && isF e
    | _ => false)
  | .frz _, _ => false
  | .unpack is e, s => (match s with
    | .Assign [.Tuple es _ _] v _ => chkNs N sc fnb is es && chkE N sc e v && !isLc v && !isTp v
    | _ => false)
  | .par i j a b, s => (match s with
    | .Assign [.Tuple [.Name x px, .Name y py] _ _] (.Tuple [u, v] _ _) _ => decide (N[i]? = some x) && decide (N[j]? = some y) && !(i == j) && parB sc x y px py u v && chkE N sc a u && chkE N sc b v
    | _ => false)
  | .aug i sub e, s => (match s with
    | .AugAssign (.Name x _) op v _ => decide (op = if sub then .Sub else .Add) && decide (N[i]? = some x) && locB sc fnb x && chkE N sc e v
    | _ => false)
  | .app i e, s => (match s with
    | .Expr (.Call (.Attribute (.Name x _) m ap) [v] [] p) _ => decide (m = "append") && nmB N sc i x && !isStar v && (ap.endLine == p.line) && chkE N sc e v
    | _ => false)
  | .setI i k e, s => (match s with
    | .Assign [.Subscript (.Name x _) j _] v _ => nmB N sc i x && !isSlice j && !isLc v && chkE N sc e v && chkE N sc k j
    | _ => false)
  | .augI i k sub e, s => (match s with
    | .AugAssign (.Subscript (.Name x _) j _) op v _ => decide (op = if sub then .Sub else .Add) && nmB N sc i x && !isSlice j && chkE N sc e v && chkE N sc k j
    | _ => false)
  | .setF i _ _ f e, s => (match s with
    | .Assign [.Attribute (.Name x _) y _] v _ => decide (y = f) && nmB N sc i x && !isLc v && chkE N sc e v
    | _ => false)
  | .ite c a b, s => (match s with
    | .If t p q _ => chkE N sc c t && !isIte c && chkSs N sc fnb a p && chkSs N sc fnb b q
    | _ => false)
  | .ret e, s => (match s with
    | .Return (some v) _ => chkE N sc e v
    | _ => false)
  | .retF e, s => (match s with
    | .Return (some v) _ => chkE N sc e v && isF e
    | _ => false)
  | .retO i, s => (match s with
    | .Return (some (.Name x _)) _ => nmB N sc i x
    | _ => false)
  | .retN, s => (match s with
    | .Return none _ => true
    | _ => false)
  | .raise x _, s => (match s with
    | .Raise (some (.Call f [.Constant (.str _) _ _] [] _)) none _ => glN sc x f
    | _ => false)
  | .for_ tg it body, s => (match s with
    | .For t i b [] _ => chkT N sc fnb tg t && chkI N sc it t i && chkSs N sc fnb body b
    | _ => false)
  | .while_ _ c body, s => (match s with
    | .While t b [] _ => chkE N sc c t && !isIte c && chkSs N sc fnb body b
    | _ => false)
  | .brk, s => (match s with
    | .Break _ => true
    | _ => false)
  | .cont, s => (match s with
    | .Continue _ => true
    | _ => false)
  | .try_ body x _ _ i h, s => (match s with
    | .Try b [.ExceptHandler (some (.Name y _)) (some n) (b0 :: suite) _] [] [] _ => decide (y = x) && glB sc x && decide (N[i]? = some n) && decide (sc.names.lookup n = some .local) && chkSs N sc fnb body b && chkSs N sc fnb h (b0 :: suite) && cfSs h
    | _ => false)
def chkSs (N : List Str) (sc : Scope) (fnb : Str → Bool) : Cmds → List Stmt → Bool
  | .nil, [] => true
  | .nil, _ :: _ => false
  | .cons c cs, ss => (match c with
    | .frz _ => chkSs N sc fnb cs ss
    | c => (match ss with
      | s :: ss => chkS N sc fnb c s && chkSs N sc fnb cs ss
      | [] => false))
end
mutual
def OkS (z : Cz) : Cmd → Prop
  | .expr e => OkE z e | .set _ e => OkE z e | .setO _ e => OkE z e | .unpack _ e => OkE z e
  | .par _ _ a b => OkE z a ∧ OkE z b
  | .aug _ _ e => OkE z e | .app _ e => OkE z e
  | .setI _ k e => OkE z k ∧ OkE z e
  | .augI _ k _ e => OkE z k ∧ OkE z e
  | .setF _ c k f e => (Cls z.K (z.G.cl c) ∧ NoAttr z.K (z.G.cl c) f ∧ (z.G.fld c)[k]? = some f ∧ (z.G.fld c).Nodup ∧ (z.G.fld c).length < 1000) ∧ OkE z e
  | .ite c a b => OkE z c ∧ OkSs z a ∧ OkSs z b
  | .ret e => OkE z e | .retF e => OkE z e
  | .raise x c => z.mg x = some (.ref (z.G.cl c)) ∧ RaiseC z.K (z.G.cl c)
  | .for_ _ it body => OkI z it ∧ OkSs z body
  | .while_ _ c body => OkE z c ∧ OkSs z body
  | .try_ body x _ tab _ h => (∃ d, z.mg x = some (.ref d) ∧ ∀ p ∈ tab, ExcC z.K (z.G.cl p.1) ∧ PySem.W.exmOne z.K (.ref (z.G.cl p.1)) (.ref d) = some p.2) ∧ OkSs z body ∧ OkSs z h
  | _ => True
def OkSs (z : Cz) : Cmds → Prop
  | .nil => True
  | .cons c cs => OkS z c ∧ OkSs z cs
end
/-- where a block stands -/
def Ms (z : Cz) (X : Cx) (W : Wh) (C : Cfg) (b : Bool) : Prop := (Good1 z X W ∧ C.xa = none ∧ X.stack = X.env :: X.outer ∧ X.env.frame = some X.env.locals) ∨ b = true
section
variable {z : Cz} {X : Cx} {W : Wh} {C : Cfg} {b c : Bool}
theorem Ms.l (h : Ms z X W C (b && c)) : Ms z X W C b := h.imp id fun h => by rw [Bool.and_eq_true] at h; exact h.1
theorem Ms.r (h : Ms z X W C (b && c)) : Ms z X W C c := h.imp id fun h => by rw [Bool.and_eq_true] at h; exact h.2
theorem Ms.g (h : Ms z X W C false) : Good1 z X W ∧ C.xa = none ∧ X.stack = X.env :: X.outer ∧ X.env.frame = some X.env.locals := h.elim id fun h => by cases h
theorem Ms.md (h : Ms z X W C b) : Md z X W C b := h.imp (fun h => ⟨h.1, h.2.1⟩) id
theorem Ms.of (h : Good1 z X W ∧ C.xa = none ∧ X.stack = X.env :: X.outer ∧ X.env.frame = some X.env.locals) : Ms z X W C b := .inl h
end
theorem nm_of {N : List Str} {sc : Scope} {i : Nat} {x : Str} (h : nmB N sc i x = true) : N[i]? = some x ∧ visB sc x = true ∧ okN x = true := by
  unfold nmB at h
  simp only [Bool.and_eq_true, decide_eq_true_eq] at h
  exact ⟨h.1.1, h.1.2, h.2⟩
section
variable (z : Cz)
/-- a comprehension, given to a name -/
theorem sndLc {elt cond : Exp} {tg : Tgt} {it : Itx} {own' : List (Str × Nat)} {sc : Scope} {fnb : Str → Bool} {X : Cx} {W : Wh} {C : Cfg} {ρ : Env'} {v : Expr} {x : Str} {px pos : Pos} {k : Nat} (g0 : Good0 (zw z sc fnb) X) (gc : GoodC (zw z sc fnb) X C) (g1 : Good1 (zw z sc fnb) X W) (hx : C.xa = none) (hk : z.N[k]? = some x)
    (hc : chkE z.N sc (.comp elt cond tg it own') v = true) (hl : lcLine z.N sc x px v = true) (ok : OkE z (.comp elt cond tg it own')) (fr : Bool) : PS X (.Assign [.Name x px] v pos) (tAsg (tM fr C W ρ (evE (.comp elt cond tg it own') ρ)) (gName k)) := by
  cases v with
  | ListComp e gens scope p =>
    match gens, hc with
    | [⟨t, i, ifs, 0⟩], hc =>
      have h : (blkC z.N sc scope own' && chkE z.N (relS scope sc) elt e && (match (generalizing := false) ifs with
        | [] => isOmit cond
        | [c] => !isOmit cond && !isIte cond && chkE z.N (relS scope sc) cond c
        | _ => false) && chkT z.N (relS scope sc) (fun x => scope.names.lookup x == some .cell) tg t && chkI z.N sc it t i && (slotsT tg).all (own'.map (·.2)).contains) = true := hc
      simp only [Bool.and_eq_true] at h
      obtain ⟨⟨⟨⟨⟨h1, h2⟩, h3⟩, h4⟩, h5⟩, h6⟩ := h
      have eK := gc.hK.trans g0.hK.symm
      have bok : BlkOk X.N X.env.scope scope own' := by rw [g0.hN, g0.hsc]; exact blkOk_by h1
      have pi := sndI z it sc fnb X W C ρ t i true g0 gc (.of ⟨g1, hx⟩) h5 ok.2.2
      have hN : X.N.Nodup := by rw [g0.hN]; exact g0.nd
      have := se_comp (X := X) (C := C) (W := W) (ρ := ρ) (elt := elt) (cond := cond) (tg := tg) (it := it) (own' := own') (x := e) (t := t) (i := i) (ifs := ifs) (scope := scope) (p := p) eK g1.calm hN hx bok (set_of_chk h5 X.env)
        (fun j hj => by have := List.all_eq_true.mp h6 j hj; simpa using this) pi
        (fun s H c cl fp q => pg_T (blk0 g0 scope s H c cl fp) (blkC0 gc q.1 scope s H c cl fp) g1.calm h4 q.2)
        (fun s H c cl fp q => by
          match ifs, h3 with
          | [], h3 =>
            rw [show isOmit cond = true from h3]
            exact pts_nil.imp fun σ H Q q => q.2 H (Same.refl _)
          | [cc], h3 =>
            have h3' : (!isOmit cond && !isIte cond && chkE z.N (relS scope sc) cond cc) = true := h3
            simp only [Bool.and_eq_true] at h3'
            have h7 : isOmit cond = false := by simpa using h3'.1.1
            rw [h7]
            exact pts_one ((sndE z cond (relS scope sc) (fun x => scope.names.lookup x == some .cell) _ W0 (C.inn q.1) q.2 cc (blk0 g0 scope s H c cl fp) (blkC0 gc q.1 scope s H c cl fp) (.of (blk1 g1 q.1 scope s H c cl fp)) h3'.2 ok.2.1).b (by simpa using h3'.1.2)))
        (fun s H c cl fp q => (sndE z elt (relS scope sc) (fun x => scope.names.lookup x == some .cell) _ W0 (C.inn q.1) q.2 e (blk0 g0 scope s H c cl fp) (blkC0 gc q.1 scope s H c cl fp) (.of (blk1 g1 q.1 scope s H c cl fp)) h2 ok.1).e)
      obtain ⟨_, g, tt, te, j1, j2, j3, j4⟩ := this fr
      have hl' : ((match sc.kind with | .function => true | _ => false) && decide (sc.names.lookup x = some .local) && (px.line == p.line) && !(scope.names.any fun (n, k) => n == x && (k == .local || k == .cell))) = true := hl
      simp only [Bool.and_eq_true, decide_eq_true_eq] at hl'
      obtain ⟨⟨⟨l1, l2⟩, l3⟩, l4⟩ := hl'
      have hkd : X.env.scope.kind = .function := by
        rw [g0.hsc]
        show sc.kind = _
        revert l1
        cases sc.kind <;> intro l1 <;> first | rfl | cases l1
      have hyl : X.env.scope.names.lookup x = some .local := by rw [g0.hsc]; exact l2
      exact (ps_setLc g1.calm hN (by rw [g0.hN]; exact hk) hyl (sw_true hkd hyl l3 (Bool.not_eq_true' _ ▸ l4)) pi bok j1 j2 j3 (set_of_chk h5 X.env)).imp fun D σ H q => j4 σ H _ q
  | _ => cases hc
theorem chkSs_cons {N : List Str} {sc : Scope} {fnb : Str → Bool} {c : Cmd} {cs : Cmds} {ss : List Stmt} (h : chkSs N sc fnb (.cons c cs) ss = true) : (∃ i, c = .frz i ∧ chkSs N sc fnb cs ss = true) ∨ ∃ s r, ss = s :: r ∧ chkS N sc fnb c s = true ∧ chkSs N sc fnb cs r = true := by
  by_cases hf : ∃ i, c = .frz i
  · obtain ⟨i, rfl⟩ := hf
    exact .inl ⟨i, rfl, h⟩
  · right
    cases ss with
    | nil => cases c <;> first | exact absurd ⟨_, rfl⟩ hf | cases h
    | cons s r =>
      have h' : (chkS N sc fnb c s && chkSs N sc fnb cs r) = true := by
        cases c <;> first | exact absurd ⟨_, rfl⟩ hf | exact h
      rw [Bool.and_eq_true] at h'
      exact ⟨s, r, rfl, h'.1, h'.2⟩
theorem set_any {sc : Scope} {fnb : Str → Bool} {X : Cx} {W : Wh} {C : Cfg} {ρ : Env'} {v : Expr} {x : Str} {px pos : Pos} {i : Nat} {e : Exp} (g0 : Good0 (zw z sc fnb) X) (gc : GoodC (zw z sc fnb) X C) (ms : Ms (zw z sc fnb) X W C (cfE e)) (h1 : z.N[i]? = some x) (h2 : locB sc fnb x = true) (h3 : chkE z.N sc e v = true) (h4 : (isLcE e || !isLc v) = true) (h5 : lcLine z.N sc x px v = true) (ok : OkE z e)
    (fr : Bool) (hf : fr = true → isF e = true) : PS X (.Assign [.Name x px] v pos) (tAsg (tM fr C W ρ (evE e ρ)) (gName i)) := by
  by_cases hlc : isLc v = true
  · rw [hlc] at h4
    have hcomp : ∃ elt cond tg it own', e = .comp elt cond tg it own' := by
      cases e <;> first | exact ⟨_, _, _, _, _, rfl⟩ | (exfalso; exact Bool.false_ne_true h4)
    obtain ⟨elt, cond, tg, it, own', rfl⟩ := hcomp
    obtain ⟨k1, k2, _⟩ := ms.g
    exact sndLc z g0 gc k1 k2 h1 h3 h5 ok fr
  · exact asg_of g0 ⟨h1, h2⟩ (by simpa using hlc) ((sndE z e sc fnb X W C ρ v g0 gc ms.md h3 ok).m fr hf)
mutual
theorem sndS : ∀ (c : Cmd) (sc : Scope) (fnb : Str → Bool) (X : Cx) (W : Wh) (C : Cfg) (ρ : Env') (s : Stmt), Good0 (zw z sc fnb) X → GoodC (zw z sc fnb) X C → Ms (zw z sc fnb) X W C (cfS c) → chkS z.N sc fnb c s = true → OkS z c → PS X s (tS C W ρ (exS c ρ))
  | .skip, sc, fnb, X, W, C, ρ, s, g0, gc, ms, hc, ok => by
    cases s with
    | Pass p => exact st_skip ps_pass
    | Expr e p =>
      match e, hc with
      | .Constant (.str _) _ _, hc => exact st_skip ps_doc
    | _ => cases hc
  | .expr e, sc, fnb, X, W, C, ρ, s, g0, gc, ms, hc, ok => by
    cases s with
    | Expr x p =>
      have h : (chkE z.N sc e x && !isLc x) = true := hc
      rw [Bool.and_eq_true] at h
      exact st_expr (by simpa using h.2) (sndE z e sc fnb X W C ρ x g0 gc (.of ms.md.g) h.1 ok)
    | _ => cases hc
  | .set i e, sc, fnb, X, W, C, ρ, s, g0, gc, ms, hc, ok => by
    cases s with
    | Assign ts v pos =>
      match ts, hc with
      | [.Name x px], hc =>
        have h : (decide (z.N[i]? = some x) && locB sc fnb x && chkE z.N sc e v && (isLcE e || !isLc v) && lcLine z.N sc x px v) = true := hc
        simp only [Bool.and_eq_true, decide_eq_true_eq] at h
        obtain ⟨⟨⟨⟨h1, h2⟩, h3⟩, h4⟩, h5⟩ := h
        exact st_set' (e := v) g0 (set_any z g0 gc ms h1 h2 h3 h4 h5 ok false (fun h => by cases h))
    | _ => cases hc
  | .setO i e, sc, fnb, X, W, C, ρ, s, g0, gc, ms, hc, ok => by
    cases s with
    | Assign ts v pos =>
      match ts, hc with
      | [.Name x px], hc =>
        have h : (decide (z.N[i]? = some x) && locB sc fnb x && chkE z.N sc e v && (isLcE e || !isLc v) && lcLine z.N sc x px v && isF e) = true := hc
        simp only [Bool.and_eq_true, decide_eq_true_eq] at h
        obtain ⟨⟨⟨⟨⟨h1, h2⟩, h3⟩, h4⟩, h5⟩, h6⟩ := h
        exact st_setO' (e := v) g0 (set_any z g0 gc (.of ms.g) h1 h2 h3 h4 h5 ok true (fun _ => h6))
    | _ => cases hc
  | .frz i, sc, fnb, X, W, C, ρ, s, g0, gc, ms, hc, ok => by cases hc
  | .unpack is e, sc, fnb, X, W, C, ρ, s, g0, gc, ms, hc, ok => by
    cases s with
    | Assign ts v pos =>
      match ts, hc with
      | [.Tuple es k p], hc =>
        have h : (chkNs z.N sc fnb is es && chkE z.N sc e v && !isLc v && !isTp v) = true := hc
        simp only [Bool.and_eq_true] at h
        obtain ⟨⟨⟨h1, h2⟩, h3⟩, h4⟩ := h
        exact st_unpack g0 gc ms.g.1.calm h1 (by simpa using h3) (by simpa using h4) (sndE z e sc fnb X W C ρ v g0 gc (.of ms.md.g) h2 ok)
    | _ => cases hc
  | .par i j a b, sc, fnb, X, W, C, ρ, s, g0, gc, ms, hc, ok => by
    cases s with
    | Assign ts v pos =>
      match ts, v, hc with
      | [.Tuple [.Name x px, .Name y py] k p], .Tuple [u, w] k2 p2, hc =>
        have h : (decide (z.N[i]? = some x) && decide (z.N[j]? = some y) && !(i == j) && parB sc x y px py u w && chkE z.N sc a u && chkE z.N sc b w) = true := hc
        simp only [Bool.and_eq_true, decide_eq_true_eq] at h
        obtain ⟨⟨⟨⟨⟨h1, h2⟩, h3⟩, h4⟩, h5⟩, h6⟩ := h
        exact st_par g0 ms.g.1.calm h1 h2 (by simpa using h3) h4 (sndE z a sc fnb X W C ρ u g0 gc (.of ms.md.g) h5 ok.1) (sndE z b sc fnb X W C ρ w g0 gc (.of ms.md.g) h6 ok.2)
    | _ => cases hc
  | .aug i sub e, sc, fnb, X, W, C, ρ, s, g0, gc, ms, hc, ok => by
    cases s with
    | AugAssign t op v pos =>
      match t, hc with
      | .Name x px, hc =>
        have h : (decide (op = if sub then Operator.Sub else .Add) && decide (z.N[i]? = some x) && locB sc fnb x && chkE z.N sc e v) = true := hc
        simp only [Bool.and_eq_true, decide_eq_true_eq] at h
        obtain ⟨⟨⟨rfl, h1⟩, h2⟩, h3⟩ := h
        exact st_aug g0 ⟨h1, h2⟩ (sndE z e sc fnb X W C ρ v g0 gc (.of ms.md.g) h3 ok)
    | _ => cases hc
  | .app i e, sc, fnb, X, W, C, ρ, s, g0, gc, ms, hc, ok => by
    cases s with
    | Expr x p =>
      match x, hc with
      | .Call (.Attribute (.Name x px) m ap) [v] [] p, hc =>
        have h : (decide (m = "append") && nmB z.N sc i x && !isStar v && (ap.endLine == p.line) && chkE z.N sc e v) = true := hc
        simp only [Bool.and_eq_true, decide_eq_true_eq] at h
        obtain ⟨⟨⟨⟨rfl, h1⟩, h2⟩, h3⟩, h4⟩ := h
        obtain ⟨n1, n2, n3⟩ := nm_of h1
        exact st_app g0 n1 n2 n3 (by simpa using h2) h3 (sndE z e sc fnb X W C ρ v g0 gc (.of ms.md.g) h4 ok)
    | _ => cases hc
  | .setI i k e, sc, fnb, X, W, C, ρ, s, g0, gc, ms, hc, ok => by
    cases s with
    | Assign ts v pos =>
      match ts, hc with
      | [.Subscript (.Name x px) j p], hc =>
        have h : (nmB z.N sc i x && !isSlice j && !isLc v && chkE z.N sc e v && chkE z.N sc k j) = true := hc
        simp only [Bool.and_eq_true] at h
        obtain ⟨⟨⟨⟨h1, h2⟩, h3⟩, h4⟩, h5⟩ := h
        obtain ⟨n1, n2, n3⟩ := nm_of h1
        exact st_setI g0 n1 n2 n3 (by simpa using h2) (by simpa using h3) (sndE z e sc fnb X W C ρ v g0 gc (.of ms.md.g) h4 ok.2) (sndE z k sc fnb X W C ρ j g0 gc (.of ms.md.g) h5 ok.1)
    | _ => cases hc
  | .augI i k sub e, sc, fnb, X, W, C, ρ, s, g0, gc, ms, hc, ok => by
    cases s with
    | AugAssign t op v pos =>
      match t, hc with
      | .Subscript (.Name x px) j p, hc =>
        have h : (decide (op = if sub then Operator.Sub else .Add) && nmB z.N sc i x && !isSlice j && chkE z.N sc e v && chkE z.N sc k j) = true := hc
        simp only [Bool.and_eq_true, decide_eq_true_eq] at h
        obtain ⟨⟨⟨⟨rfl, h1⟩, h2⟩, h4⟩, h5⟩ := h
        obtain ⟨n1, n2, n3⟩ := nm_of h1
        exact st_augI g0 n1 n2 n3 (by simpa using h2) (sndE z e sc fnb X W C ρ v g0 gc (.of ms.md.g) h4 ok.2) (sndE z k sc fnb X W C ρ j g0 gc (.of ms.md.g) h5 ok.1)
    | _ => cases hc
  | .setF i c k f e, sc, fnb, X, W, C, ρ, s, g0, gc, ms, hc, ok => by
    cases s with
    | Assign ts v pos =>
      match ts, hc with
      | [.Attribute (.Name x px) y p], hc =>
        have h : (decide (y = f) && nmB z.N sc i x && !isLc v && chkE z.N sc e v) = true := hc
        simp only [Bool.and_eq_true, decide_eq_true_eq] at h
        obtain ⟨⟨⟨rfl, h1⟩, h2⟩, h3⟩ := h
        obtain ⟨n1, n2, n3⟩ := nm_of h1
        obtain ⟨⟨o1, o2, o3, o4, o5⟩, ok2⟩ := ok
        exact st_setF g0 gc n1 n2 n3 (by simpa using h2) o1 o2 o3 o4 o5 (sndE z e sc fnb X W C ρ v g0 gc (.of ms.md.g) h3 ok2)
    | _ => cases hc
  | .ite c a b, sc, fnb, X, W, C, ρ, s, g0, gc, ms, hc, ok => by
    cases s with
    | If t p q pos =>
      have h : (chkE z.N sc c t && !isIte c && chkSs z.N sc fnb a p && chkSs z.N sc fnb b q) = true := hc
      simp only [Bool.and_eq_true] at h
      exact st_ite (by simpa using h.1.1.2) (sndE z c sc fnb X W C ρ t g0 gc (Ms.md (Ms.l (Ms.l ms))) h.1.1.1 ok.1) (sndSs a sc fnb X W C ρ p g0 gc (Ms.r (Ms.l ms)) h.1.2 ok.2.1) (sndSs b sc fnb X W C ρ q g0 gc (Ms.r ms) h.2 ok.2.2)
    | _ => cases hc
  | .ret e, sc, fnb, X, W, C, ρ, s, g0, gc, ms, hc, ok => by
    cases s with
    | Return o p =>
      cases o with
      | none => cases hc
      | some v => exact st_ret (sndE z e sc fnb X W C ρ v g0 gc ms.md hc ok)
    | _ => cases hc
  | .retF e, sc, fnb, X, W, C, ρ, s, g0, gc, ms, hc, ok => by
    cases s with
    | Return o p =>
      cases o with
      | none => cases hc
      | some v =>
        have h : (chkE z.N sc e v && isF e) = true := hc
        rw [Bool.and_eq_true] at h
        exact st_retF h.2 (sndE z e sc fnb X W C ρ v g0 gc ms.md h.1 ok)
    | _ => cases hc
  | .retO i, sc, fnb, X, W, C, ρ, s, g0, gc, ms, hc, ok => by
    cases s with
    | Return o p =>
      match o, hc with
      | some (.Name x px), hc =>
        obtain ⟨n1, n2, n3⟩ := nm_of hc
        exact st_retO g0 n1 n2 n3
    | _ => cases hc
  | .retN, sc, fnb, X, W, C, ρ, s, g0, gc, ms, hc, ok => by
    cases s with
    | Return o p =>
      cases o with
      | none => exact st_retN
      | some v => cases hc
    | _ => cases hc
  | .raise x c, sc, fnb, X, W, C, ρ, s, g0, gc, ms, hc, ok => by
    cases s with
    | Raise e cause pos =>
      match e, cause, hc with
      | some (.Call f [.Constant (.str _) _ _] [] _), none, hc => exact st_raise g0 gc ms.g.1 hc ok.1 ok.2
    | _ => cases hc
  | .for_ tg it body, sc, fnb, X, W, C, ρ, s, g0, gc, ms, hc, ok => by
    cases s with
    | For t i b orelse pos =>
      cases orelse with
      | nil =>
        have h : (chkT z.N sc fnb tg t && chkI z.N sc it t i && chkSs z.N sc fnb body b) = true := hc
        simp only [Bool.and_eq_true] at h
        exact st_for ms.g.1 (set_of_chk h.1.2 X.env) (sndI z it sc fnb X W C ρ t i false g0 gc (.of ms.md.g) h.1.2 ok.1) (fun ρ x => pg_T g0 gc ms.g.1.calm h.1.1 x) (fun ρ => sndSs body sc fnb X W C ρ b g0 gc (.of ms.g) h.2 ok.2)
      | cons _ _ => cases hc
    | _ => cases hc
  | .while_ fuel c body, sc, fnb, X, W, C, ρ, s, g0, gc, ms, hc, ok => by
    cases s with
    | While t b orelse pos =>
      cases orelse with
      | nil =>
        have h : (chkE z.N sc c t && !isIte c && chkSs z.N sc fnb body b) = true := hc
        simp only [Bool.and_eq_true] at h
        exact st_while ms.g.1 (by simpa using h.1.2) (fun ρ => sndE z c sc fnb X W C ρ t g0 gc (.of ms.md.g) h.1.1 ok.1) (fun ρ => sndSs body sc fnb X W C ρ b g0 gc (.of ms.g) h.2 ok.2)
      | cons _ _ => cases hc
    | _ => cases hc
  | .brk, sc, fnb, X, W, C, ρ, s, g0, gc, ms, hc, ok => by
    cases s with
    | Break p => exact st_brk
    | _ => cases hc
  | .cont, sc, fnb, X, W, C, ρ, s, g0, gc, ms, hc, ok => by
    cases s with
    | Continue p => exact st_cont
    | _ => cases hc
  | .try_ body x k tab i h, sc, fnb, X, W, C, ρ, s, g0, gc, ms, hc, ok => by
    cases s with
    | Try b hs orelse fin pos =>
      match hs, orelse, fin, hc with
      | [.ExceptHandler (some (.Name y np)) (some n) (b0 :: suite) pos'], [], [], hc =>
        have h' : (decide (y = x) && glB sc x && decide (z.N[i]? = some n) && decide (sc.names.lookup n = some .local) && chkSs z.N sc fnb body b && chkSs z.N sc fnb h (b0 :: suite) && cfSs h) = true := hc
        simp only [Bool.and_eq_true, decide_eq_true_eq] at h'
        obtain ⟨⟨⟨⟨⟨⟨rfl, h2⟩, h3⟩, h4⟩, h5⟩, h6⟩, h7⟩ := h'
        obtain ⟨⟨d, o1, o2⟩, ok1, ok2⟩ := ok
        obtain ⟨g1, hx, hst, hfr⟩ := ms.g
        refine st_try (z := zw z sc fnb) g0 gc g1 hx hst hfr h3 h4 h2 o1 o2 (fun Wx pn xe tk pas => ?_) (fun a oe pn c ρ hcr => ?_)
        · exact sndSs body sc fnb (X.tr pn xe) _ C ρ b ⟨g0.hP, g0.hw, g0.hK, g0.hmg, g0.hb, g0.hN, g0.nd, g0.hsc, g0.hfn⟩ ⟨gc.hK, gc.hG, fun a c h => by rw [hx] at h; cases h⟩
            (.of ⟨⟨g1.calm, g1.room, pas, tk.imp fun cls d σ H ⟨c, e1, e2, w⟩ => by subst e1 e2; exact w⟩, hx, hst, hfr⟩) h5 ok1
        · exact sndSs h sc fnb (X.suite a ((a, oe) :: pn)) W0 (C.wx a c) ρ (b0 :: suite) ⟨g0.hP, g0.hw, g0.hK, g0.hmg, g0.hb, g0.hN, g0.nd, g0.hsc, g0.hfn⟩ ⟨gc.hK, gc.hG, fun a' c' h => by cases h; exact hcr⟩ (.inr h7) h6 ok2
    | _ => cases hc
theorem sndSs : ∀ (cs : Cmds) (sc : Scope) (fnb : Str → Bool) (X : Cx) (W : Wh) (C : Cfg) (ρ : Env') (ss : List Stmt), Good0 (zw z sc fnb) X → GoodC (zw z sc fnb) X C → Ms (zw z sc fnb) X W C (cfSs cs) → chkSs z.N sc fnb cs ss = true → OkSs z cs → PSs X ss (tS C W ρ (exSs cs ρ))
  | .nil, sc, fnb, X, W, C, ρ, ss, g0, gc, ms, hc, ok => by
    cases ss with
    | nil => exact pss_nil.imp fun D σ H q => q.2 σ H q.1 Step.refl
    | cons _ _ => cases hc
  | .cons c cs, sc, fnb, X, W, C, ρ, ss, g0, gc, ms, hc, ok => by
    rcases chkSs_cons hc with ⟨i, rfl, h1⟩ | ⟨s, r, rfl, h1, h2⟩
    · refine (sndSs cs sc fnb X W C (frz i ρ) ss g0 gc (.of (Ms.g (Ms.l ms))) h1 ok.2).imp fun D σ H q => ?_
      obtain ⟨e, q⟩ := q
      have q' : SG C W ρ σ H D (exSs cs (frz i ρ)) := q
      exact ⟨e.frz i, q'.step (Step.less (Same.refl _) own_frz)⟩
    · have hs := sndS c sc fnb X W C ρ s g0 gc (Ms.l ms) h1 ok.1
      have hr : ∀ ρ, PSs X r (tS C W ρ (exSs cs ρ)) := fun ρ => sndSs cs sc fnb X W C ρ r g0 gc (Ms.r ms) h2 ok.2
      refine (pss_cons hs (PSs.ex hr)).imp fun D σ H q => ?_
      obtain ⟨e, q⟩ := q
      have q' : SG C W ρ σ H D (match exS c ρ with
        | .next ρ1 => exSs cs ρ1
        | r => r) := q
      refine ⟨e, ?_⟩
      cases hx : exS c ρ with
      | next ρ1 =>
        rw [hx] at q'
        exact fun σ1 H1 e1 t1 => ⟨ρ1, e1, q'.step t1⟩
      | brk ρ1 => rw [hx] at q'; exact q'
      | cont ρ1 => rw [hx] at q'; exact q'
      | ret f v => rw [hx] at q'; exact q'
      | exc k ρ1 => rw [hx] at q'; exact q'
      | stuck => rw [hx] at q'; exact q'
end
end
end MP

/-! MP, part 14: a def keeps its contract. -/
namespace MP
open PySem PySem.Spec PyProof.Rows L2

theorem sl_env0 {n i : Nat} {args : List PV} : sl (env0 n args) i = (match args[i]? with
  | some x => .fr x
  | none => .un) := by
  unfold env0
  rw [sl_get, List.getD_eq_getElem?_getD]
  by_cases h : i < args.length
  · rw [List.getElem?_append_left (by rw [List.length_map]; exact h), List.getElem?_map]
    rw [List.getElem?_eq_getElem h]
    rfl
  · rw [List.getElem?_append_right (by rw [List.length_map]; omega), List.getElem?_replicate, List.getElem?_eq_none (by omega)]
    by_cases h2 : i - (args.map Slot.fr).length < n - args.length
    · rw [if_pos h2]; rfl
    · rw [if_neg h2]; rfl
theorem start_at {N : List Str} {vs : List V} {i : Nat} {v : V} (h : vs[i]? = some v) : (L2.start N vs)[i]? = some (some v) := by
  unfold L2.start
  have hi : i < vs.length := (List.getElem?_eq_some_iff.mp h).1
  rw [List.getElem?_append_left (by rw [List.length_map]; exact hi), List.getElem?_map, h]
  rfl
section
variable {P : Program} {w : World} {K : PySem.W.Frag} {mg : Str → Option Value} {base : Heap} {G : Gx} {x qual : Str} {params : Arguments} {body : List Stmt} {scope : Scope} {dvs : List V} {kws : List (Str × V)} {f : Addr} {fd : FuncData} {N ps : List Str} {L : Nat}
abbrev czOf (P : Program) (w : World) (K : PySem.W.Frag) (mg : Str → Option Value) (base : Heap) (N : List Str) (sc : Scope) (L : Nat) (G : Gx) : Cz := ⟨P, w, K, mg, base, N, sc, fun _ => true, L, G⟩
theorem good0_of (S : FnScope N ps scope) (cdv : Value) (A : Around) (outer : List Env) (s : Shared) (H : Hp) (E : XK) : Good0 (zw (czOf P w K mg base N scope L G) scope (fun _ => true)) (cxOf (L2.CX P w) P w K mg base N qual scope f cdv A outer s H E) :=
  ⟨rfl, rfl, rfl, rfl, rfl, rfl, S.nd, rfl, fun _ _ => rfl⟩
theorem good1_of (cdv : Value) (A : Around) (outer : List Env) (s : Shared) (H : Hp) (E : XK) (hr : Room L (A.deeper (envOfC qual scope s.heap.objs.size f cdv))) :
    Good1 (zw (czOf P w K mg base N scope L G) scope (fun _ => true)) (cxOf (L2.CX P w) P w K mg base N qual scope f cdv A outer s H E) (fun c _ H' => E (.ref (G.cl c)) none H') :=
  ⟨rfl, hr, passes_of rfl, (takes_of rfl rfl rfl rfl).imp fun cls d σ H ⟨c, e1, e2, h⟩ => by
    subst e1 e2
    exact h⟩
theorem fn_sound (F : FunD K x qual params body scope dvs kws f fd) (S : FnScope N ps scope) {fr : Bool} {c : Cmds} (hc : chkSs N scope (fun _ => true) c body = true) (ok : OkSs (czOf P w K mg base N scope L G) c) :
    FnOk P w K mg base (L2.CX P w) (L + 1) f fd ps (spOf K G fr ps.length (runF fr ps.length N.length c)) := by
  refine F.ok S (fun vs H Q E h => h.1) fun cdv A outer s H vs Q E hr hsp => ?_
  obtain ⟨hlen, B, args, hB, hR, hsp⟩ := hsp
  have hal : args.length = ps.length := by rw [← hR.len, hlen]
  let C : Cfg := ⟨K, G, B, H, none, 0⟩
  let ρ0 := env0 N.length args
  refine ⟨tS C (fun c _ H' => E (.ref (G.cl c)) none H') ρ0 (exSs c ρ0), sndSs (czOf P w K mg base N scope L G) c scope (fun _ => true) _ _ C ρ0 body (good0_of S cdv A outer s H E) ⟨rfl, rfl, fun a c h => by cases h⟩ (.inl ⟨good1_of cdv A outer s H E hr, rfl, rfl, rfl⟩) hc ok, ?_, ?_⟩
  · have no : ∀ a, ¬ own ρ0 (L2.start N vs) a := fun a ⟨i, z, _⟩ => by
      rw [sl_env0] at z
      split at z <;> exact z
    have hpl : ps.length ≤ N.length := by have := congrArg List.length S.pre; rw [List.length_take] at this; omega
    refine ⟨?_, fun i => ?_, fun i j a h1 _ => absurd ⟨i, h1⟩ (no a), Same.refl _, hB⟩
    · show (args.map Slot.fr ++ List.replicate (N.length - args.length) Slot.un).length = (vs.map some ++ List.replicate (N.length - vs.length) none).length
      simp only [List.length_append, List.length_map, List.length_replicate]
      omega
    · rw [sl_env0]
      cases hx : args[i]? with
      | none => exact trivial
      | some y =>
        obtain ⟨v, k1, k2⟩ := hR.get hx
        exact ⟨v, start_at k1, Rep.mono (hid_sub fun a z => z.elim id fun z => absurd z (no a)) _ _ k2⟩
  · unfold runF at hsp
    rw [if_pos hal] at hsp
    cases he : exSs c ρ0 with
    | next ρ1 =>
      rw [show exSs c (env0 N.length args) = .next ρ1 from he] at hsp
      intro σ1 H1 e1 t1
      cases fr with
      | true => exact hsp.elim
      | false =>
        have h2 : (∀ v H', Same H H' → Rep K G (hid B H') .non v → Q v H') ∨ (false = true ∧ _) := hsp
        rcases h2 with h2 | ⟨h2, _⟩
        · exact h2 .non H1 e1.le0 rfl
        · cases h2
    | ret fl v =>
      rw [show exSs c (env0 N.length args) = .ret fl v from he] at hsp
      intro v' H1 r
      have hsp' : (match (if fr = true ∧ fl = false then R.stuck else .ok v) with
        | .ok x => (∀ v H', Same H H' → Rep K G (hid B H') x v → Q v H') ∨
            (fr = true ∧ ∃ xs, x = .lst xs ∧ ∀ p ws H', Same H H' → H p = none → H' p = some (.lst ws) → xs.length ≤ szL → Reps K G (hid (fun a => B a ∨ a = p) H') xs ws → Q (.ref p) H')
        | .exc c => ∀ H', Same H H' → E (.ref (G.cl c)) none H'
        | .stuck => False) := hsp
      by_cases hf : fr = true ∧ fl = false
      · rw [if_pos hf] at hsp'
        exact hsp'.elim
      · rw [if_neg hf] at hsp'
        rcases hsp' with h2 | ⟨h2, xs, h3, h4⟩
        · exact h2 v' H1 r.le r.rep
        · have hfl : fl = true := by
            cases fl with
            | true => rfl
            | false => exact absurd ⟨h2, rfl⟩ hf
          obtain ⟨ys, p, us, k1, k2, k3, k4, k5, k6⟩ := r.fresh hfl
          rw [h3] at k1
          cases k1
          subst k2
          exact h4 p us H1 r.le k3 k4 k5 k6
    | exc k ρ1 =>
      rw [show exSs c (env0 N.length args) = .exc k ρ1 from he] at hsp
      exact fun σ1 H1 e1 t1 => hsp H1 e1.le0
    | brk ρ1 => rw [show exSs c (env0 N.length args) = .brk ρ1 from he] at hsp; exact hsp.elim
    | cont ρ1 => rw [show exSs c (env0 N.length args) = .cont ρ1 from he] at hsp; exact hsp.elim
    | stuck => rw [show exSs c (env0 N.length args) = .stuck from he] at hsp; exact hsp.elim
theorem runF_len {fr : Bool} {k n : Nat} {c : Cmds} (args : List PV) (h : args.length ≠ k) : runF fr k n c args = .stuck := by
  unfold runF
  rw [if_neg h]
theorem runI_len {c nf k n : Nat} {b : Cmds} (args : List PV) (h : args.length + 1 ≠ k) : runI c nf k n b args = .stuck := by
  unfold runI
  rw [if_neg h]
theorem init_sound (F : FunD K x qual params body scope dvs kws f fd) (S : FnScope N ps scope) {cc nf : Nat} {c : Cmds} (hnf : nf = (G.fld cc).length) (hc : chkSs N scope (fun _ => true) c body = true) (ok : OkSs (czOf P w K mg base N scope L G) c) :
    FnOk P w K mg base (L2.CX P w) (L + 1) f fd ps (spInit K G cc ps.length (runI cc nf ps.length N.length c)) := by
  refine F.ok S (fun vs H Q E h => h.1) fun cdv A outer s H vs Q E hr hsp => ?_
  obtain ⟨hlen, B, args, xa, dx, r, hB, nB, hvs, hx, hR, hsp⟩ := hsp
  subst hvs
  have hal : args.length + 1 = ps.length := by rw [← hR.len, ← hlen]; rfl
  let C : Cfg := ⟨K, G, B, hid (fun a => a = xa) H, none, xa⟩
  let ρ0 : Env' := .oo cc nf [] :: (args.map .fr ++ List.replicate (N.length - ps.length) .un)
  have hpl : ps.length ≤ N.length := by have := congrArg List.length S.pre; rw [List.length_take] at this; omega
  have e0 : ρ0 = .oo cc nf [] :: env0 (N.length - 1) args := by
    show _ = Slot.oo cc nf [] :: (args.map .fr ++ List.replicate (N.length - 1 - args.length) .un)
    rw [show N.length - 1 - args.length = N.length - ps.length by omega]
  have hs0 : (L2.start N (.ref xa :: r))[0]? = some (some (.ref xa)) := start_at rfl
  have hsl : ∀ i, sl ρ0 (i + 1) = (match args[i]? with | some x => .fr x | none => .un) := fun i => by
    rw [e0]
    exact sl_env0
  have ow : ∀ a, own ρ0 (L2.start N (.ref xa :: r)) a ↔ a = xa := fun a => by
    constructor
    · rintro ⟨i, z1, z2⟩
      cases i with
      | zero =>
        rw [hs0] at z2
        cases z2
        rfl
      | succ i =>
        rw [hsl] at z1
        split at z1 <;> exact z1.elim
    · rintro rfl
      exact ⟨0, trivial, hs0⟩
  refine ⟨tS C (fun c _ H' => E (.ref (G.cl c)) none H') ρ0 (exSs c ρ0), sndSs (czOf P w K mg base N scope L G) c scope (fun _ => true) _ _ C ρ0 body (good0_of S cdv A outer s H E) ⟨rfl, rfl, fun a c h => by cases h⟩ (.inl ⟨good1_of cdv A outer s H E hr, rfl, rfl, rfl⟩) hc ok, ?_, ?_⟩
  · refine ⟨?_, fun i => ?_, fun i j a h1 h2 => ?_, hid_le, hB⟩
    · show (args.map Slot.fr ++ List.replicate (N.length - ps.length) Slot.un).length + 1 = ((V.ref xa :: r).map some ++ List.replicate (N.length - (V.ref xa :: r).length) none).length
      have := hR.len
      simp only [List.length_append, List.length_map, List.length_replicate, List.length_cons]
      omega
    · cases i with
      | zero =>
        refine ⟨xa, dx, [], hs0, by rw [List.zip_nil_right]; exact hx, nB, ?_, ⟨hnf, Nat.zero_le _, rfl⟩, rfl⟩
        show hid (fun a => a = xa) H xa = none
        cases h : hid (fun a => a = xa) H xa with
        | none => rfl
        | some o => exact absurd rfl (hid_some.mp h).1
      | succ i =>
        rw [hsl]
        cases hx' : args[i]? with
        | none => exact trivial
        | some y =>
          obtain ⟨v, k1, k2⟩ := hR.get hx'
          refine ⟨v, start_at (vs := .ref xa :: r) (i := i + 1) (by simpa using k1), Rep.mono (hid_sub fun a z => z.imp id (ow a).mp) _ _ k2⟩
    · have at0 : ∀ {i}, ownAt ρ0 (L2.start N (.ref xa :: r)) i a → i = 0 := fun {i} ⟨z1, _⟩ => by
        cases i with
        | zero => rfl
        | succ i =>
          rw [hsl] at z1
          split at z1 <;> exact z1.elim
      rw [at0 h1, at0 h2]
  · unfold runI at hsp
    rw [if_pos hal] at hsp
    have keep : ∀ {H1 : Hp}, Same (hid (fun a => a = xa) H) H1 → ∀ a o, a ≠ xa → H a = some o → H1 a = some o := fun {H1} s a o n q => s a o (hid_some.mpr ⟨n, q⟩)
    cases he : exSs c ρ0 with
    | next ρ1 =>
      rw [show exSs c (.oo cc nf [] :: (args.map .fr ++ List.replicate (N.length - ps.length) .un)) = .next ρ1 from he] at hsp
      intro σ1 H1 e1 t1
      have hsp' : (match ((match sl ρ1 0 with
        | .oo c' _ xs => if c' = cc ∧ xs.length = nf then R.ok (PV.obj cc xs) else .stuck
        | _ => .stuck : R PV)) with
        | .ok y => ∀ H' : Hp, (∀ a o, a ≠ xa → H a = some o → H' a = some o) → Rep K G (hid B H') y (.ref xa) → Q .non H'
        | .exc e => ∀ H' : Hp, (∀ a o, a ≠ xa → H a = some o → H' a = some o) → E (.ref (G.cl e)) none H'
        | .stuck => False) := hsp
      cases hsl : sl ρ1 0 with
      | oo c' nf' xs =>
        rw [hsl] at hsp'
        obtain ⟨a, dx', vs', k1, k2, k3, k4, k5, k6⟩ := e1.oo hsl
        have hsp2 : (match ((if c' = cc ∧ xs.length = nf then R.ok (PV.obj cc xs) else .stuck : R PV)) with
          | .ok y => ∀ H' : Hp, (∀ a o, a ≠ xa → H a = some o → H' a = some o) → Rep K G (hid B H') y (.ref xa) → Q .non H'
          | .exc e => ∀ H' : Hp, (∀ a o, a ≠ xa → H a = some o → H' a = some o) → E (.ref (G.cl e)) none H'
          | .stuck => False) := hsp'
        by_cases hcc : c' = cc ∧ xs.length = nf
        · rw [if_pos hcc] at hsp2
          obtain ⟨rfl, hxn⟩ := hcc
          have ea : a = xa := k5.2.2
          subst ea
          exact hsp2 H1 (keep e1.le0) ⟨a, dx', vs', rfl, hid_some.mpr ⟨k3, k2⟩, by rw [hxn, hnf], Reps.mono (hid_sub fun b z => .inl z) _ _ k6⟩
        · rw [if_neg hcc] at hsp2
          exact hsp2.elim
      | _ => rw [hsl] at hsp'; exact hsp'.elim
    | exc k ρ1 =>
      rw [show exSs c (.oo cc nf [] :: (args.map .fr ++ List.replicate (N.length - ps.length) .un)) = .exc k ρ1 from he] at hsp
      exact fun σ1 H1 e1 t1 => hsp H1 (keep e1.le0)
    | ret fl v => rw [show exSs c (.oo cc nf [] :: (args.map .fr ++ List.replicate (N.length - ps.length) .un)) = .ret fl v from he] at hsp; exact hsp.elim
    | brk ρ1 => rw [show exSs c (.oo cc nf [] :: (args.map .fr ++ List.replicate (N.length - ps.length) .un)) = .brk ρ1 from he] at hsp; exact hsp.elim
    | cont ρ1 => rw [show exSs c (.oo cc nf [] :: (args.map .fr ++ List.replicate (N.length - ps.length) .un)) = .cont ρ1 from he] at hsp; exact hsp.elim
    | stuck => rw [show exSs c (.oo cc nf [] :: (args.map .fr ++ List.replicate (N.length - ps.length) .un)) = .stuck from he] at hsp; exact hsp.elim
end
/-! ### the law's end -/
section
variable {G : Gx}
/-- F: what the head tells; law: the whole answers true -/
theorem walk_MP {l : PySem.W.OpenLaw} {n k : Nat} {q : Program} {loose : List Str} {XP : (Str → Option Value) → Heap → Prop} {YP : World → Heap → Prop} {d : DefRec} {x : Str} {g : List PV → R PV}
    (hn : l.most = some n) (hn2 : n ≤ szL) (hdf : d.params.defaults = []) (hr : Room k callerA)
    (F : ∀ (w : World) (mg : Str → Option Value) (fa : Addr) (h : Heap), YP w h → h.Ns mainGlobals mg → mg d.name = some (.ref fa) →
      ∃ (K : PySem.W.Frag) (G : Gx) (fd : FuncData), K.In h ∧ (∀ (s : Shared) (u : Value), BindsTo s fd ⟨[u], []⟩ [(x, u)]) ∧
        ∀ base : Heap, K.In base → base.Ns mainGlobals mg → FnOk l.prog w K mg base (L2.CX l.prog w) k fa fd [x] (spOf K G false 1 g))
    (law : ∀ ns : List Int, ns.length ≤ n → (∀ z ∈ ns, Builtin.Int.intBits z ≤ 1048576) → g [.lsk (ns.map .int)] = .ok (.bl true)) :
    PySem.W.WalkO q loose XP YP l.row.toRowW d [] (fun f vs => PySem.call f vs) := by
  refine Att.attach_callB hn hdf fun w s₀ s₁ mg mb fa o pm cd doc a vs ns Gd Y ho hd hcd hmg hobj hints hlen hbits hg => ?_
  obtain ⟨K, G, fd, KX, hb, hF⟩ := F w mg fa _ Y Gd.T.g hmg
  refine law_call KX Gd.T.g Gd.T.b Gd.T.builtins Gd.T.nolimit hg hobj hints (Nat.le_trans hlen (by rw [szL_eq]; exact hn2)) hr hF hb (fun H hO hS => ?_) fun H e s' hx => ?_
  · refine ⟨rfl, fun _ => False, [.lsk (ns.map .int)], fun _ z => z.elim, ?_, ?_⟩
    · have hid0 : hid (fun _ => False) H = H := funext fun b => by
        cases h : H b with
        | none =>
          cases h2 : hid (fun _ => False) H b with
          | none => rfl
          | some o =>
            have := (hid_some.mp h2).2
            rw [h] at this
            cases this
        | some o => exact hid_some.mpr ⟨id, h⟩
      rw [hid0]
      have ri : ∀ l : List Int, Reps K G H (l.map PV.int) (l.map V.int) := fun l => by
        induction l with
        | nil => exact rfl
        | cons m l ih => exact .cons rfl ih
      exact .cons ⟨a, ns.map V.int, rfl, hS, by rw [List.length_map]; exact Nat.le_trans hlen hn2, ri ns⟩ .nil
    · rw [law ns hlen hbits]
      exact .inl fun v H' _ r => r
  · obtain ⟨_, _, _, _, _, _, _, _, _, _, _, _, z⟩ := hx
    exact z.elim
end
end MP

/-! MP, part 15: the head's facts. -/
namespace MP
open PySem PySem.Spec PyProof.Rows L2

inductive Fb where
  | fa (f : He.Fa) | xc (x : Str) | kit (x y : Str) (b : Bool)
def Fb.ok (K : PySem.W.Frag) : Fb → Bool
  | .fa f => f.ok K
  | .xc x => decide (PySem.W.findIn K (.ref (He.ga K x)) "__getattribute__" = some (some (.builtin "BaseException.__getattribute__"))) && (decide (PySem.W.findIn K (.ref (He.ga K x)) "__getattr__" = some none) && (decide (PySem.W.subIn K (.ref (He.ga K x)) (.type "BaseException") = some true) &&
      (PySem.W.hasDictIn K (He.ga K x) && (decide (PySem.W.findIn K (.ref (He.ga K x)) "__class__" = some (some (.builtin "object.__class__"))) && (decide (PySem.W.specialIn K (.builtin "object.__class__") "__get__" = some (some (.builtin "getset_descriptor.__get__"))) &&
        (decide (PySem.W.takesIn K (.builtin "object.__class__") = some true) && decide (PySem.W.mroIn K (He.ga K x) (.type "object") = some true)))))))
  | .kit x y b => decide (PySem.W.kitOne K (.ref (He.ga K x)) (.ref (He.ga K y)) = some b)
theorem xc_of {K : PySem.W.Frag} {x : Str} (h : (Fb.xc x).ok K = true) : ExcC K (He.ga K x) := by
  obtain ⟨h1, h⟩ := He.ba h
  obtain ⟨h2, h⟩ := He.ba h
  obtain ⟨h3, h⟩ := He.ba h
  obtain ⟨h4, h⟩ := He.ba h
  obtain ⟨h5, h⟩ := He.ba h
  obtain ⟨h6, h⟩ := He.ba h
  obtain ⟨h7, h8⟩ := He.ba h
  exact ⟨of_decide_eq_true h1, of_decide_eq_true h2, of_decide_eq_true h3, h4, of_decide_eq_true h5, of_decide_eq_true h6, of_decide_eq_true h7, of_decide_eq_true h8⟩
theorem kx_of {K : PySem.W.Frag} {x y : Str} {b : Bool} (h : (Fb.kit x y b).ok K = true) : PySem.W.kitOne K (.ref (He.ga K x)) (.ref (He.ga K y)) = some b := of_decide_eq_true h
theorem rc_of {K : PySem.W.Frag} {x : Str} (h : (Fb.fa (.exc x)).ok K = true) : RaiseC K (He.ga K x) := by
  obtain ⟨h1, h2, h3, h4⟩ := He.exc_ok h
  exact ⟨_, _, _, _, PySem.F.excBase_ValueError, h1, h2, h3, h4⟩
theorem all_cons {α : Type} {p : α → Prop} {a : α} {xs : List α} (h : p a) (t : ∀ x ∈ xs, p x) : ∀ x ∈ a :: xs, p x := fun x hx => by
  rcases List.mem_cons.mp hx with e | e
  · rw [e]; exact h
  · exact t x e
def obsM (fb : List Fb) (fn : List He.DefD) (K : PySem.W.Frag) : He.AlD := ((fb.all fun f => f.ok K) && fn.all fun d => d.ok K, fn.map fun d => He.fnW K d.at_)
def SaysM (fb : List Fb) (fn : List He.DefD) (K : PySem.W.Frag) : Prop := obsM fb fn K = He.valD fn
def obsMG (n : Nat) (fb : List Fb) (fn : List He.DefD) (g : Addr → Option Obj) : He.AlD := obsM fb fn (He.frG g (He.asD g n))
def hookM (n : Nat) (fb : List Fb) (fn : List He.DefD) : PySem.W.Hook where
  α := He.AlD
  obs := fun s => obsMG n fb fn s.heap.get?
  val := fun _ => He.valD fn
  says := fun _ h => ∃ K : PySem.W.Frag, K.In h ∧ SaysM fb fn K
  of := fun _ _ e => ⟨_, He.frG_in, e⟩
  keeps := fun _ _ _ ⟨K, hK, c⟩ k => ⟨K, PySem.W.Frag.In.keeps hK k, c⟩
theorem obsMG_eq {n : Nat} {fb : List Fb} {fn : List He.DefD} {g : Addr → Option Obj} {s : Shared} (h : ∀ a, g a = s.heap.get? a) : obsMG n fb fn g = (hookM n fb fn).obs s := by
  have e : g = s.heap.get? := funext h
  rw [e] <;> rfl
section
variable {fb : List Fb} {fn : List He.DefD} {K : PySem.W.Frag}
theorem SaysM.fact (c : SaysM fb fn K) (i : Nat) {f : Fb} (h : fb[i]? = some f := by rfl) : f.ok K = true := by
  have c1 := (He.ba (show ((fb.all fun f => f.ok K) && fn.all fun d => d.ok K) = true from congrArg (fun z : He.AlD => z.1) c)).1
  exact List.all_eq_true.mp c1 f (List.mem_of_getElem? h)
theorem SaysM.def_ (c : SaysM fb fn K) (i : Nat) {d : He.DefD} (h : fn[i]? = some d := by rfl) : ∃ fd, FunD K d.name d.qual d.params d.body d.scope (d.dvs K) (d.kws K) (He.fAd K d.at_) fd := by
  have c2 := (He.ba (show ((fb.all fun f => f.ok K) && fn.all fun d => d.ok K) = true from congrArg (fun z : He.AlD => z.1) c)).2
  have e : fn.map (fun d => He.fnW K d.at_) = fn.map He.DefD.val := congrArg (fun z : He.AlD => z.2) c
  have e2 : (fn.map fun d => He.fnW K d.at_)[i]? = (fn.map He.DefD.val)[i]? := by rw [e]
  rw [List.getElem?_map, List.getElem?_map, h] at e2
  exact He.DefD.funD (Option.some.inj e2) (List.all_eq_true.mp c2 d (List.mem_of_getElem? h))
end
end MP

/-! MP, part 16: rows for reckoning with the small language. -/
namespace MP
open PySem PySem.Spec PyProof.Rows L2

theorem nr {α : Sort _} {a b : α} (h : a = b) : a = b := h
def SR.bd (r : SR) (k : Env' → SR) : SR := match r with
  | .next ρ => k ρ
  | .ret f v => .ret f v
  | .brk ρ => .brk ρ
  | .cont ρ => .cont ρ
  | .exc c ρ => .exc c ρ
  | .stuck => .stuck
def finF (fr : Bool) : SR → R PV
  | .next _ => if fr = true then .stuck else .ok .non
  | .ret f v => if fr = true ∧ f = false then .stuck else .ok v
  | .exc c _ => .exc c
  | _ => .stuck
def hdS : SR → SR
  | .ret f v => .ret f v
  | _ => .stuck
def hkS (c : Nat) (r : SR) (ρ : Env') : Option Bool → SR
  | some true => hdS r
  | some false => .exc c ρ
  | none => .stuck
def SR.tr (r : SR) (tab : List (Nat × Bool)) (i : Nat) (h : Cmds) : SR := match r with
  | .exc c ρ1 => hkS c (exSs h (ρ1.set i (.ex c))) ρ1 (tab.lookup c)
  | .next ρ => .next ρ
  | .ret f v => .ret f v
  | .brk ρ => .brk ρ
  | .cont ρ => .cont ρ
  | .stuck => .stuck
section
variable {ρ : Env'} {k : Env' → SR} {p : Prop} [Decidable p] {α β : Type}
theorem xs_nil : exSs .nil ρ = .next ρ := by simp only [exSs]
theorem xs_cons {c : Cmd} {cs : Cmds} : exSs (.cons c cs) ρ = (exS c ρ).bd (exSs cs) := by
  simp only [exSs]
  cases exS c ρ <;> rfl
theorem x_try {body : Cmds} {x : Str} {d : Nat} {tab : List (Nat × Bool)} {i : Nat} {h : Cmds} : exS (.try_ body x d tab i h) ρ = (exSs body ρ).tr tab i h := by
  show (match exSs body ρ with
    | .exc c ρ1 => (match tab.lookup c with
      | some true => (match exSs h (ρ1.set i (.ex c)) with
        | .ret f v => SR.ret f v
        | _ => .stuck)
      | some false => .exc c ρ1
      | none => .stuck)
    | r => r) = _
  cases exSs body ρ with
  | exc c ρ1 =>
    show (match tab.lookup c with
      | some true => (match exSs h (ρ1.set i (.ex c)) with
        | .ret f v => SR.ret f v
        | _ => .stuck)
      | some false => .exc c ρ1
      | none => .stuck) = hkS c (exSs h (ρ1.set i (.ex c))) ρ1 (tab.lookup c)
    cases tab.lookup c with
    | none => rfl
    | some b =>
      cases b
      · rfl
      · show (match exSs h (ρ1.set i (.ex c)) with
          | .ret f v => SR.ret f v
          | _ => .stuck) = hdS _
        cases exSs h (ρ1.set i (.ex c)) <;> rfl
  | _ => rfl
theorem x_skip : exS .skip ρ = .next ρ := by simp only [exS]
theorem x_expr {e : Exp} : exS (.expr e) ρ = sb (evE e ρ) ρ fun _ => .next ρ := by simp only [exS]
theorem x_set {i : Nat} {e : Exp} : exS (.set i e) ρ = sb (evE e ρ) ρ fun v => .next (ρ.set i (.fr v)) := by simp only [exS]
def owS (i : Nat) (ρ : Env') : PV → SR
  | .lst xs => .next (ρ.set i (.ow xs))
  | _ => .stuck
theorem ow_lst {i : Nat} {xs : List PV} : owS i ρ (.lst xs) = .next (ρ.set i (.ow xs)) := nr rfl
theorem x_setO {i : Nat} {e : Exp} : exS (.setO i e) ρ = sb (evE e ρ) ρ fun v => owS i ρ v := nr rfl
theorem x_frz {i : Nat} : exS (.frz i) ρ = .next (frz i ρ) := by simp only [exS]
def upS : Option Env' → SR
  | some ρ1 => .next ρ1
  | none => .stuck
theorem up_some : upS (some ρ) = .next ρ := nr rfl
theorem x_unpack {is : List Nat} {e : Exp} : exS (.unpack is e) ρ = sb (evE e ρ) ρ fun v => upS (bindT (.tp is) v ρ) := nr rfl
theorem x_par {i j : Nat} {a b : Exp} : exS (.par i j a b) ρ = sb (evE a ρ) ρ fun v => sb (evE b ρ) ρ fun w => .next ((ρ.set i (.fr v)).set j (.fr w)) := by simp only [exS]
def augS (i : Nat) (sub : Bool) (r : R PV) (ρ : Env') : Slot → SR
  | .fr x => sb r ρ fun y => sb (augV sub x y) ρ fun z => .next (ρ.set i (.fr z))
  | _ => .stuck
theorem aug_fr {i : Nat} {sub : Bool} {r : R PV} {x : PV} : augS i sub r ρ (.fr x) = sb r ρ fun y => sb (augV sub x y) ρ fun z => .next (ρ.set i (.fr z)) := nr rfl
theorem aug_ii {sub : Bool} {i j : Int} : augV sub (.int i) (.int j) = .ok (.int (if sub = true then i - j else i + j)) := nr rfl
theorem x_aug {i : Nat} {sub : Bool} {e : Exp} : exS (.aug i sub e) ρ = augS i sub (evE e ρ) ρ (sl ρ i) := by
  simp only [exS]
  cases sl ρ i <;> rfl
def appS (i : Nat) (r : R PV) (ρ : Env') : Slot → SR
  | .ow xs => sb r ρ fun v => if xs.length < szL then .next (ρ.set i (.ow (xs ++ [v]))) else .stuck
  | _ => .stuck
theorem app_ow {i : Nat} {r : R PV} {xs : List PV} : appS i r ρ (.ow xs) = sb r ρ fun v => if xs.length < szL then .next (ρ.set i (.ow (xs ++ [v]))) else .stuck := nr rfl
theorem ap_ok {i : Nat} {v : PV} {xs : List PV} (h : xs.length < 16777216) : appS i (.ok v) ρ (.ow xs) = .next (ρ.set i (.ow (xs ++ [v]))) := if_pos (show xs.length < szL from h)
theorem x_app {i : Nat} {e : Exp} : exS (.app i e) ρ = appS i (evE e ρ) ρ (sl ρ i) := by
  simp only [exS]
  cases sl ρ i <;> rfl
def siS (i : Nat) (rk re : R PV) (ρ : Env') : Slot → SR
  | .ow xs => sb re ρ fun v => sb rk ρ fun j => (match j with
      | .int j => (match ixN xs.length j with
        | some n => .next (ρ.set i (.ow (xs.set n v)))
        | none => .stuck)
      | _ => .stuck)
  | _ => .stuck
theorem x_setI {i : Nat} {k e : Exp} : exS (.setI i k e) ρ = siS i (evE k ρ) (evE e ρ) ρ (sl ρ i) := by
  simp only [exS]
  cases sl ρ i <;> rfl
theorem si_ow {i : Nat} {xs : List PV} {j : Int} {v : PV} (h0 : 0 ≤ j) (h1 : j < xs.length) : siS i (.ok (.int j)) (.ok v) ρ (.ow xs) = .next (ρ.set i (.ow (xs.set j.toNat v))) := by
  have e : ixN xs.length j = some j.toNat := by
    unfold ixN
    rw [if_pos h0, if_pos h1]
  show (match ixN xs.length j with
    | some n => SR.next (ρ.set i (.ow (xs.set n v)))
    | none => .stuck) = _
  rw [e]
def aiS (i : Nat) (sub : Bool) (rk re : R PV) (ρ : Env') : Slot → SR
  | .ow xs => sb rk ρ fun j => (match j with
      | .int j => (match ixN xs.length j with
        | some n => (match xs[n]? with
          | some x => sb re ρ fun y => sb (augV sub x y) ρ fun z => .next (ρ.set i (.ow (xs.set n z)))
          | none => .stuck)
        | none => .stuck)
      | _ => .stuck)
  | _ => .stuck
theorem x_augI {i : Nat} {sub : Bool} {k e : Exp} : exS (.augI i k sub e) ρ = aiS i sub (evE k ρ) (evE e ρ) ρ (sl ρ i) := by
  simp only [exS]
  cases sl ρ i <;> rfl
theorem ai_ow {i : Nat} {sub : Bool} {xs : List PV} {j a b : Int} (h0 : 0 ≤ j) (h1 : j < xs.length) (hx : xs[j.toNat]? = some (.int a)) : aiS i sub (.ok (.int j)) (.ok (.int b)) ρ (.ow xs) = .next (ρ.set i (.ow (xs.set j.toNat (.int (if sub = true then a - b else a + b))))) := by
  have e : ixN xs.length j = some j.toNat := by
    unfold ixN
    rw [if_pos h0, if_pos h1]
  show (match ixN xs.length j with
    | some n => (match xs[n]? with
      | some x => sb (R.ok (PV.int b)) ρ fun y => sb (augV sub x y) ρ fun z => SR.next (ρ.set i (.ow (xs.set n z)))
      | none => .stuck)
    | none => .stuck) = _
  rw [e]
  show (match xs[j.toNat]? with
      | some x => sb (R.ok (PV.int b)) ρ fun y => sb (augV sub x y) ρ fun z => SR.next (ρ.set i (.ow (xs.set j.toNat z)))
      | none => .stuck) = _
  rw [hx]
  rfl
def sfS (i c k : Nat) (r : R PV) (ρ : Env') : Slot → SR
  | .oo c' nf xs => if c' = c ∧ xs.length = k ∧ k < nf then sb r ρ fun v => .next (ρ.set i (.oo c nf (xs ++ [v]))) else .stuck
  | _ => .stuck
theorem sf_oo {i c k c' nf : Nat} {r : R PV} {xs : List PV} : sfS i c k r ρ (.oo c' nf xs) = if c' = c ∧ xs.length = k ∧ k < nf then sb r ρ fun v => .next (ρ.set i (.oo c nf (xs ++ [v]))) else .stuck := nr rfl
theorem x_setF {i c k : Nat} {x : Str} {e : Exp} : exS (.setF i c k x e) ρ = sfS i c k (evE e ρ) ρ (sl ρ i) := by
  simp only [exS]
  cases sl ρ i <;> rfl
def itS (r : R Bool) (a b : Cmds) (ρ : Env') : SR := match r with
  | .ok k => if k = true then exSs a ρ else exSs b ρ
  | .exc c => .exc c ρ
  | .stuck => .stuck
theorem x_ite {c : Exp} {a b : Cmds} : exS (.ite c a b) ρ = itS ((evE c ρ).bnd truR) a b ρ := by
  show sb ((evE c ρ).bnd truR) ρ (fun k => if k = true then exSs a ρ else exSs b ρ) = _
  cases (evE c ρ).bnd truR <;> rfl
theorem it_ok {a b : Cmds} {k : Bool} : itS (.ok k) a b ρ = if k = true then exSs a ρ else exSs b ρ := nr rfl
theorem it_exc {a b : Cmds} {k : Nat} : itS (.exc k) a b ρ = .exc k ρ := nr rfl
theorem it_ite {a b : Cmds} {p : Prop} [Decidable p] {r1 r2 : R Bool} : itS (if p then r1 else r2) a b ρ = if p then itS r1 a b ρ else itS r2 a b ρ := by split <;> rfl
theorem x_ret {e : Exp} : exS (.ret e) ρ = sb (evE e ρ) ρ fun v => .ret false v := by simp only [exS]
def rfS : PV → SR
  | .lst xs => .ret true (.lst xs)
  | _ => .stuck
theorem rf_lst {xs : List PV} : rfS (.lst xs) = .ret true (.lst xs) := nr rfl
theorem x_retF {e : Exp} : exS (.retF e) ρ = sb (evE e ρ) ρ fun v => rfS v := nr rfl
def roS : Slot → SR
  | .ow xs => .ret true (.lst xs)
  | _ => .stuck
theorem ro_ow {xs : List PV} : roS (.ow xs) = .ret true (.lst xs) := nr rfl
theorem x_retO {i : Nat} : exS (.retO i) ρ = roS (sl ρ i) := by
  simp only [exS]
  cases sl ρ i <;> rfl
theorem x_retN : exS .retN ρ = .ret false .non := by simp only [exS]
theorem x_raise {x : Str} {c : Nat} : exS (.raise x c) ρ = .exc c ρ := by simp only [exS]
theorem x_for {tg : Tgt} {it : Itx} {b : Cmds} : exS (.for_ tg it b) ρ = sb (evI it ρ false) ρ fun xs => forR (exSs b) tg xs ρ := by simp only [exS]
def whR (c : Exp) (b : Cmds) (n : Nat) (ρ : Env') : SR := whileR (fun ρ => (evE c ρ).bnd truR) (fun ρ => exSs b ρ) n ρ
theorem x_while {fuel : Env' → Nat} {c : Exp} {b : Cmds} : exS (.while_ fuel c b) ρ = whR c b (fuel ρ) ρ := by simp only [exS]; rfl
theorem x_brk : exS .brk ρ = .brk ρ := by simp only [exS]
theorem x_cont : exS .cont ρ = .cont ρ := by simp only [exS]
theorem tr_next {tab : List (Nat × Bool)} {i : Nat} {h : Cmds} : (SR.next ρ).tr tab i h = .next ρ := nr rfl
theorem tr_ret {f : Bool} {v : PV} {tab : List (Nat × Bool)} {i : Nat} {h : Cmds} : (SR.ret f v).tr tab i h = .ret f v := nr rfl
theorem hd_ret {f : Bool} {v : PV} : hdS (.ret f v) = .ret f v := nr rfl
theorem hk_t {c : Nat} {r : SR} : hkS c r ρ (some true) = hdS r := nr rfl
theorem hk_f {c : Nat} {r : SR} : hkS c r ρ (some false) = .exc c ρ := nr rfl
theorem tr_exc {c : Nat} {tab : List (Nat × Bool)} {i : Nat} {h : Cmds} : (SR.exc c ρ).tr tab i h = hkS c (exSs h (ρ.set i (.ex c))) ρ (tab.lookup c) := nr rfl
theorem bd_next : (SR.next ρ).bd k = k ρ := nr rfl
theorem bd_ret {f : Bool} {v : PV} : (SR.ret f v).bd k = .ret f v := nr rfl
theorem bd_brk : (SR.brk ρ).bd k = .brk ρ := nr rfl
theorem bd_cont : (SR.cont ρ).bd k = .cont ρ := nr rfl
theorem bd_exc {c : Nat} : (SR.exc c ρ).bd k = .exc c ρ := nr rfl
theorem bd_stuck : SR.stuck.bd k = .stuck := nr rfl
theorem bd_ite {a b : SR} : (if p then a else b).bd k = if p then a.bd k else b.bd k := by split <;> rfl
theorem tr_ite {a b : SR} {tab : List (Nat × Bool)} {i : Nat} {h : Cmds} : (if p then a else b).tr tab i h = if p then a.tr tab i h else b.tr tab i h := by split <;> rfl
theorem fin_ite {a b : SR} {fr : Bool} : finF fr (if p then a else b) = if p then finF fr a else finF fr b := by split <;> rfl
theorem fin_next {fr : Bool} : finF fr (.next ρ) = if fr = true then .stuck else .ok .non := nr rfl
theorem fin_ret {fr f : Bool} {v : PV} : finF fr (.ret f v) = if fr = true ∧ f = false then .stuck else .ok v := nr rfl
theorem fin_exc {fr : Bool} {c : Nat} : finF fr (.exc c ρ) = .exc c := nr rfl
theorem bnd_ok {a : α} {f : α → R β} : (R.ok a).bnd f = f a := nr rfl
theorem bnd_exc {c : Nat} {f : α → R β} : (R.exc c : R α).bnd f = .exc c := nr rfl
theorem bnd_stuck {f : α → R β} : (R.stuck : R α).bnd f = .stuck := nr rfl
theorem bnd_ite {a b : R α} {f : α → R β} : (if p then a else b).bnd f = if p then a.bnd f else b.bnd f := by split <;> rfl
theorem sb_ok {a : α} {f : α → SR} : sb (R.ok a) ρ f = f a := nr rfl
theorem sb_exc {c : Nat} {f : α → SR} : sb (R.exc c : R α) ρ f = .exc c ρ := nr rfl
theorem sb_stuck {f : α → SR} : sb (R.stuck : R α) ρ f = .stuck := nr rfl
theorem sb_ite {a b : R α} {f : α → SR} : sb (if p then a else b) ρ f = if p then sb a ρ f else sb b ρ f := by split <;> rfl
theorem runF_eq {fr : Bool} {k n : Nat} {c : Cmds} {args : List PV} (h : args.length = k) : runF fr k n c args = finF fr (exSs c (env0 n args)) := by
  unfold runF
  rw [if_pos h]
  cases exSs c (env0 n args) <;> rfl
theorem truR_bl {b : Bool} : truR (.bl b) = .ok b := nr rfl
theorem truR_int {i : Int} : truR (.int i) = .ok (i != 0) := nr rfl
theorem isB_bl {b : Bool} : isB (.bl b) = .ok b := nr rfl
theorem cop_lt {i j : Int} : cop .lt (.int i) (.int j) = .ok (.bl (decide (i < j))) := nr rfl
theorem cop_le {i j : Int} : cop .le (.int i) (.int j) = .ok (.bl (decide (i ≤ j))) := nr rfl
theorem cop_gt {i j : Int} : cop .gt (.int i) (.int j) = .ok (.bl (decide (j < i))) := nr rfl
theorem cop_ge {i j : Int} : cop .ge (.int i) (.int j) = .ok (.bl (decide (j ≤ i))) := nr rfl
theorem cop_eqi {i j : Int} : cop .eq (.int i) (.int j) = .ok (.bl (decide (i = j))) := nr rfl
theorem cop_nei {i j : Int} : cop .ne (.int i) (.int j) = .ok (.bl (!decide (i = j))) := nr rfl
theorem b_add {i j : Int} : bop .add (.int i) (.int j) = .ok (.int (i + j)) := nr rfl
theorem b_sub {i j : Int} : bop .sub (.int i) (.int j) = .ok (.int (i - j)) := nr rfl
theorem b_mul {i j : Int} (h : mulB i j = true) : bop .mul (.int i) (.int j) = .ok (.int (i * j)) := by show (if mulB i j = true then _ else _) = _; rw [if_pos h]
theorem b_div {i j : Int} (h : divB i j = true) : bop .fdiv (.int i) (.int j) = .ok (.int (i / j)) := by show (if divB i j = true then _ else _) = _; rw [if_pos h]
theorem b_mod {i j : Int} (h : 0 < j) : bop .mod (.int i) (.int j) = .ok (.int (i % j)) := by show (if 0 < j then _ else _) = _; rw [if_pos h]
theorem b_pow {i j : Int} (h : powB i j = true) : bop .pow (.int i) (.int j) = .ok (.int (i ^ j.toNat)) := by show (if powB i j = true then _ else _) = _; rw [if_pos h]
theorem b_shl {i j : Int} (h : powB i j = true) : bop .shl (.int i) (.int j) = .ok (.int (i * 2 ^ j.toNat)) := by show (if powB i j = true then _ else _) = _; rw [if_pos h]
theorem b_shr {i j : Int} (h : 0 ≤ j) : bop .shr (.int i) (.int j) = .ok (.int (i / 2 ^ j.toNat)) := by show (if 0 ≤ j then _ else _) = _; rw [if_pos h]
theorem b_band {i j : Int} : bop .band (.int i) (.int j) = .ok (.int (Builtin.bitAnd i j)) := nr rfl
theorem b_bor {i j : Int} : bop .bor (.int i) (.int j) = .ok (.int (Builtin.bitOr i j)) := nr rfl
theorem b_bxor {i j : Int} : bop .bxor (.int i) (.int j) = .ok (.int (Builtin.bitXor i j)) := nr rfl
theorem b_addL {xs ys : List PV} (h : xs.length + ys.length ≤ szL) : bop .add (.lst xs) (.lst ys) = .ok (.lst (xs ++ ys)) := by show (if xs.length + ys.length ≤ szL then _ else _) = _; rw [if_pos h]
theorem b_mulL {xs : List PV} {k : Int} (h1 : i62 k = true) (h2 : xs.length * k.toNat ≤ szL) : bop .mul (.lst xs) (.int k) = .ok (.lst (List.replicate k.toNat xs).flatten) := by show (if i62 k = true ∧ xs.length * k.toNat ≤ szL then _ else _) = _; rw [if_pos ⟨h1, h2⟩]
end

/-! ### sizes -/
theorem natAbs_log2 {i : Int} {n : Nat} (h : i.natAbs < 2 ^ n) : i.natAbs.log2 < n ∨ i = 0 := by
  by_cases h0 : i.natAbs = 0
  · right; omega
  · left; exact (Nat.log2_lt h0).mpr h
theorem bits_le {i : Int} {n : Nat} (h : i.natAbs < 2 ^ n) : Builtin.Int.intBits i ≤ n := by
  unfold Builtin.Int.intBits
  rcases natAbs_log2 h with h1 | h1
  · split
    · omega
    · omega
  · subst h1
    simp
theorem mulB_l {i j : Int} (h1 : -9223372036854775808 ≤ i) (h2 : i ≤ 9223372036854775808) : mulB i j = true := by
  unfold mulB
  have : Builtin.Int.intBits i ≤ 64 := bits_le (by have : (2 : Nat) ^ 64 = 18446744073709551616 := by decide
                                                   omega)
  simp [this]
theorem mulB_r {i j : Int} (h1 : -9223372036854775808 ≤ j) (h2 : j ≤ 9223372036854775808) : mulB i j = true := by
  unfold mulB
  have : Builtin.Int.intBits j ≤ 64 := bits_le (by have : (2 : Nat) ^ 64 = 18446744073709551616 := by decide
                                                   omega)
  simp [this]
theorem mulB_b {i j : Int} {a b : Nat} (h1 : i.natAbs < 2 ^ a) (h2 : j.natAbs < 2 ^ b) (h : a + b ≤ 134217728) : mulB i j = true := by
  unfold mulB
  have h3 := bits_le h1
  have h4 := bits_le h2
  have h5 : Builtin.Int.intBits i + Builtin.Int.intBits j ≤ 134217728 := by omega
  simp [h5]
theorem divB_of {i j : Int} (h1 : 0 < j) (h2 : j.natAbs < 2 ^ 9000) : divB i j = true := by
  unfold divB
  have h3 : Builtin.divisionGoesByPylong i j = false := PyProof.noPylong_of_log2 (by
    rcases natAbs_log2 h2 with h | h
    · exact h
    · omega)
  rw [h3, decide_eq_true h1]
  rfl
theorem divB_s {i j : Int} (h1 : 0 < j) (h2 : j ≤ 18446744073709551616) : divB i j = true := by
  refine divB_of h1 (Nat.lt_of_le_of_lt (?_ : j.natAbs ≤ 2 ^ 64) (Nat.pow_lt_pow_right (by decide) (by decide)))
  have : (2 : Nat) ^ 64 = 18446744073709551616 := by decide
  omega
theorem i62_of {j : Int} (h1 : -4611686018427387904 ≤ j) (h2 : j < 4611686018427387904) : i62 j = true := decide_eq_true ⟨h1, h2⟩

def r1R : PV → R (List PV)
  | .int n => if i62 n = true ∧ n.toNat ≤ szL then .ok (rangeP 0 n.toNat) else .stuck
  | _ => .stuck
def r2R : PV → PV → R (List PV)
  | .int m, .int n => if i62 m = true ∧ i62 n = true ∧ (n - m).toNat ≤ szL then .ok (rangeP m (n - m).toNat) else .stuck
  | _, _ => .stuck
def seqR : PV → R (List PV)
  | .lst xs => .ok xs
  | .lsk xs => .ok xs
  | .tup xs => .ok xs
  | _ => .stuck
def enumR : PV → R (List PV)
  | .lst xs => .ok (enumP 0 xs)
  | .lsk xs => .ok (enumP 0 xs)
  | _ => .stuck
def revR : PV → R (List PV)
  | .lst xs => .ok xs.reverse
  | .lsk xs => .ok xs.reverse
  | .tup xs => .ok xs.reverse
  | _ => .stuck
def zipR : PV → PV → R (List PV)
  | .tup xs, .tup ys => .ok (zipP xs ys)
  | .lst xs, .lst ys => .ok (zipP xs ys)
  | .lst xs, .lsk ys => .ok (zipP xs ys)
  | .lsk xs, .lst ys => .ok (zipP xs ys)
  | .lsk xs, .lsk ys => .ok (zipP xs ys)
  | _, _ => .stuck
section
variable {ρ : Env'} {a b : Exp} {t : Bool}
theorem i_r1 : evI (.r1 a) ρ t = (evE a ρ).bnd r1R := nr rfl
theorem i_r2 : evI (.r2 a b) ρ t = (evE a ρ).bnd fun x => (evE b ρ).bnd fun y => r2R x y := nr rfl
theorem i_seq : evI (.seq a) ρ t = (if t = true then topOf a (evE a ρ) ρ else evE a ρ).bnd seqR := by
  show (R.bnd (if t = true then topOf a (evE a ρ) ρ else evE a ρ) fun x => _) = _
  congr 1
  funext x
  cases x <;> rfl
theorem i_enum : evI (.enum a) ρ t = (if t = true then topOf a (evE a ρ) ρ else evE a ρ).bnd enumR := by
  show (R.bnd (if t = true then topOf a (evE a ρ) ρ else evE a ρ) fun x => _) = _
  congr 1
  funext x
  cases x <;> rfl
theorem i_rev : evI (.rev a) ρ t = (if t = true then topOf a (evE a ρ) ρ else evE a ρ).bnd revR := by
  show (R.bnd (if t = true then topOf a (evE a ρ) ρ else evE a ρ) fun x => _) = _
  congr 1
  funext x
  cases x <;> rfl
theorem i_zip : evI (.zip a b) ρ t = (if t = true then topOf a (evE a ρ) ρ else evE a ρ).bnd fun x => (if t = true then topOf b (evE b ρ) ρ else evE b ρ).bnd fun y => zipR x y := by
  show (R.bnd (if t = true then topOf a (evE a ρ) ρ else evE a ρ) fun x => R.bnd (if t = true then topOf b (evE b ρ) ρ else evE b ρ) fun y => _) = _
  congr 1
  funext x
  congr 1
  funext y
  cases x <;> cases y <;> rfl
theorem seq_lst {xs : List PV} : seqR (.lst xs) = .ok xs := nr rfl
theorem seq_lsk {xs : List PV} : seqR (.lsk xs) = .ok xs := nr rfl
theorem seq_tup {xs : List PV} : seqR (.tup xs) = .ok xs := nr rfl
theorem enum_lst {xs : List PV} : enumR (.lst xs) = .ok (enumP 0 xs) := nr rfl
theorem enum_lsk {xs : List PV} : enumR (.lsk xs) = .ok (enumP 0 xs) := nr rfl
theorem rev_lst {xs : List PV} : revR (.lst xs) = .ok xs.reverse := nr rfl
theorem rev_tup {xs : List PV} : revR (.tup xs) = .ok xs.reverse := nr rfl
theorem zip_lst {xs ys : List PV} : zipR (.lst xs) (.lst ys) = .ok (zipP xs ys) := nr rfl
theorem zip_tup {xs ys : List PV} : zipR (.tup xs) (.tup ys) = .ok (zipP xs ys) := nr rfl
theorem sz_le {n : Nat} (h : n ≤ 16777216) : n ≤ szL := h
theorem sz_lt {n : Nat} (h : n < 16777216) : n < szL := h
theorem r1_ok {n : Int} (h : n ≤ 16777216) (h0 : -4611686018427387904 ≤ n) : r1R (.int n) = .ok (rangeP 0 n.toNat) := if_pos ⟨i62_of h0 (by omega), sz_le (by omega)⟩
theorem r1_nat {n : Nat} (h : n ≤ 16777216) : r1R (.int (n : Int)) = .ok (rangeP 0 n) := r1_ok (by omega) (by omega)
theorem r2_ok {m n : Int} (h : n - m ≤ 16777216) (h1 : -4611686018427387904 ≤ m) (h2 : m < 4611686018427387904) (h3 : -4611686018427387904 ≤ n) (h4 : n < 4611686018427387904) : r2R (.int m) (.int n) = .ok (rangeP m (n - m).toNat) := if_pos ⟨i62_of h1 h2, i62_of h3 h4, sz_le (by omega)⟩
def lstR (xs : List PV) : R PV := if xs.length ≤ szL then .ok (.lst xs) else .stuck
def tupR (xs : List PV) : R PV := if xs.length ≤ szL then .ok (.tup xs) else .stuck
def vrR : Slot → R PV
  | .fr v => .ok v
  | _ => .stuck
def tpR : Slot → R PV
  | .fr v => .ok v
  | .ow xs => .ok (.lst xs)
  | _ => .stuck
def ngR : PV → R PV
  | .int i => .ok (.int (-i))
  | _ => .stuck
def exR (tab : List (Nat × Bool)) : Slot → R PV
  | .ex c => (match tab.lookup c with
    | some b => .ok (.bl b)
    | none => .stuck)
  | _ => .stuck
theorem vr_fr {v : PV} : vrR (.fr v) = .ok v := nr rfl
theorem tp_fr {v : PV} : tpR (.fr v) = .ok v := nr rfl
theorem tp_ow {xs : List PV} : tpR (.ow xs) = .ok (.lst xs) := nr rfl
theorem ng_int {i : Int} : ngR (.int i) = .ok (.int (-i)) := nr rfl
theorem e_var {i : Nat} : evE (.var i) ρ = vrR (sl ρ i) := nr rfl
theorem t_var {i : Nat} {r : R PV} : topOf (.var i) r ρ = tpR (sl ρ i) := nr rfl
theorem e_int {i : Int} : evE (.int i) ρ = .ok (.int i) := nr rfl
theorem e_str {i : Str} : evE (.str i) ρ = .ok (.str i) := nr rfl
theorem e_bl {i : Bool} : evE (.bl i) ρ = .ok (.bl i) := nr rfl
theorem e_non : evE .non ρ = .ok .non := nr rfl
theorem e_glob {x : Str} {v : PV} : evE (.glob x v) ρ = .ok v := nr rfl
theorem e_bin {op : BOp} : evE (.bin op a b) ρ = (topOf a (evE a ρ) ρ).bnd fun x => (topOf b (evE b ρ) ρ).bnd fun y => bop op x y := nr rfl
theorem e_cmp {op : COp} : evE (.cmp op a b) ρ = (topOf a (evE a ρ) ρ).bnd fun x => (topOf b (evE b ρ) ρ).bnd fun y => cop op x y := nr rfl
theorem e_neg : evE (.neg a) ρ = (evE a ρ).bnd ngR := nr rfl
theorem e_not : evE (.not a) ρ = (evE a ρ).bnd fun x => (truR x).bnd fun b => .ok (.bl (!b)) := nr rfl
theorem e_and {es : Exps} : evE (.and es) ρ = evAnd es ρ := nr rfl
theorem e_or {es : Exps} : evE (.or es) ρ = evOr es ρ := nr rfl
theorem e_ite {c : Exp} : evE (.ite c a b) ρ = (evE c ρ).bnd fun x => (truR x).bnd fun k => if k = true then evE a ρ else evE b ρ := nr rfl
theorem e_chain {o1 o2 : COp} {c : Exp} : evE (.chain o1 o2 a b c) ρ = (evE a ρ).bnd fun x => (evE b ρ).bnd fun y => (cop o1 x y).bnd fun z => (isB z).bnd fun k => if k = true then (evE c ρ).bnd fun w => cop o2 y w else .ok (.bl false) := nr rfl
theorem e_isN : evE (.isN a) ρ = (evE a ρ).bnd fun x => .ok (.bl (isNonP x)) := nr rfl
theorem e_notN : evE (.notN a) ρ = (evE a ρ).bnd fun x => .ok (.bl (!isNonP x)) := nr rfl
theorem e_isIn {n : Bool} : evE (.isIn n a b) ρ = (evE a ρ).bnd fun x => (topOf b (evE b ρ) ρ).bnd fun y => inP n x y := nr rfl
theorem e_idx : evE (.idx a b) ρ = (topOf a (evE a ρ) ρ).bnd fun x => (evE b ρ).bnd fun i => idxP x i := nr rfl
theorem e_slc {lo hi : Exp} : evE (.slc a lo hi) ρ = (topOf a (evE a ρ) ρ).bnd fun x => (if isOmit lo then .ok none else partP (evE lo ρ)).bnd fun l => (if isOmit hi then .ok none else partP (evE hi ρ)).bnd fun h => slcP x l h := nr rfl
theorem e_fld {c k : Nat} {x : Str} : evE (.fld a c k x) ρ = (evE a ρ).bnd fun x => fldP c k x := nr rfl
theorem e_call {x : Str} {g : List PV → R PV} {fr : Bool} {dfl : List PV} {es : Exps} : evE (.call x g fr dfl es) ρ = (evEs es ρ).bnd fun xs => g (xs ++ dfl) := nr rfl
theorem e_meth {c : Nat} {x : Str} {g : List PV → R PV} {fr : Bool} {dfl : List PV} {es : Exps} : evE (.meth a c x g fr dfl es) ρ = (evE a ρ).bnd fun x => if isObj' c x then (evEs es ρ).bnd fun xs => g (x :: (xs ++ dfl)) else .stuck := nr rfl
theorem e_mk {x : Str} {c : Nat} {g : List PV → R PV} {dfl : List PV} {es : Exps} : evE (.mk x c g dfl es) ρ = (evEs es ρ).bnd fun xs => g (xs ++ dfl) := nr rfl
theorem e_blt {f : Blt} {es : Exps} : evE (.blt f es) ρ = (evTs es ρ).bnd fun xs => bltP f xs := nr rfl
theorem e_isI {T : String} : evE (.isI a T) ρ = (topOf a (evE a ρ) ρ).bnd fun x => isIP T x := nr rfl
theorem e_isX {i : Nat} {x : Str} {tab : List (Nat × Bool)} : evE (.isX i x tab) ρ = exR tab (sl ρ i) := nr rfl
theorem ex_ex {c : Nat} {tab : List (Nat × Bool)} {b : Bool} (h : tab.lookup c = some b) : exR tab (.ex c) = .ok (.bl b) := by
  show (match tab.lookup c with
    | some b => R.ok (PV.bl b)
    | none => .stuck) = _
  rw [h]
theorem e_brw {i : Nat} : evE (.brw i a) ρ = (evE a (frz i ρ)).bnd fun x => if flatP x = true then .ok x else .stuck := nr rfl
/-- a comprehension's turn -/
def cpR (elt cond : Exp) (tg : Tgt) (ρ : Env') (x : PV) : R (Option PV) := match bindT tg x ρ with
  | none => .stuck
  | some ρ1 => (if isOmit cond then .ok true else (evE cond ρ1).bnd truR).bnd fun k => if k = true then (evE elt ρ1).bnd fun y => .ok (some y) else .ok none
theorem e_comp {elt cond : Exp} {tg : Tgt} {it : Itx} {own : List (Str × Nat)} : evE (.comp elt cond tg it own) ρ = if freeB ρ (own.map (·.2)) = true then ((evI it ρ true).bnd fun xs => (mapC (cpR elt cond tg (wipe' ρ (own.map (·.2)))) xs).bnd fun ys => .ok (.lst ys)) else .stuck := nr rfl
theorem cp_some {elt cond : Exp} {tg : Tgt} {x : PV} {ρ1 : Env'} (h : bindT tg x ρ = some ρ1) : cpR elt cond tg ρ x = (if isOmit cond then .ok true else (evE cond ρ1).bnd truR).bnd fun k => if k = true then (evE elt ρ1).bnd fun y => .ok (some y) else .ok none := by
  unfold cpR
  rw [h]
theorem b_nm {i : Nat} {x : PV} : bindT (.nm i) x ρ = some (ρ.set i (.fr x)) := nr rfl
theorem b_tt {is : List Nat} {xs : List PV} : bindT (.tp is) (.tup xs) ρ = setN is xs ρ := nr rfl
theorem b_tl {is : List Nat} {xs : List PV} : bindT (.tp is) (.lst xs) ρ = setN is xs ρ := nr rfl
theorem sn_nil : setN [] [] ρ = some ρ := nr rfl
theorem sn_cons {i : Nat} {is : List Nat} {x : PV} {xs : List PV} : setN (i :: is) (x :: xs) ρ = setN is xs (ρ.set i (.fr x)) := nr rfl
theorem e_list {es : Exps} : evE (.list es) ρ = (evEs es ρ).bnd lstR := nr rfl
theorem e_tuple {es : Exps} : evE (.tuple es) ρ = (evEs es ρ).bnd tupR := nr rfl
theorem lstR_ok {xs : List PV} (h : xs.length ≤ 16777216) : lstR xs = .ok (.lst xs) := if_pos (sz_le h)
theorem tupR_ok {xs : List PV} (h : xs.length ≤ 16777216) : tupR xs = .ok (.tup xs) := if_pos (sz_le h)
end

theorem powB_s {i j : Int} (h0 : 0 ≤ j) (h1 : j ≤ 1000000) (h2 : 0 ≤ i) (h3 : i ≤ 9223372036854775808) : powB i j = true := by
  unfold powB
  have : (2 : Nat) ^ 64 = 18446744073709551616 := by decide
  exact decide_eq_true ⟨h0, h1, by omega⟩
theorem is_ii {i : Int} : isIP "int" (.int i) = .ok (.bl true) := nr rfl
theorem is_ib {i : Int} : isIP "bool" (.int i) = .ok (.bl false) := nr rfl
theorem is_ll {xs : List PV} : isIP "list" (.lst xs) = .ok (.bl true) := nr rfl

/-! ### lists of ints -/
abbrev il (ns : List Int) : List PV := ns.map .int
theorem il_get {ns : List Int} {k : Nat} : (il ns)[k]? = (ns[k]?).map .int := List.getElem?_map
def cutZ (ns : List Int) (lo hi : Option Int) : List Int := (ns.drop (HT.sIx ns.length 0 lo)).take (HT.sIx ns.length ns.length hi - HT.sIx ns.length 0 lo)
theorem cut_il (ns : List Int) (lo hi : Option Int) : cutP (il ns) lo hi = il (cutZ ns lo hi) := by
  unfold cutP cutZ il
  rw [List.length_map, List.map_take, List.map_drop]
theorem cutZ_len (ns : List Int) (lo hi : Option Int) : (cutZ ns lo hi).length ≤ ns.length := by
  unfold cutZ
  rw [List.length_take, List.length_drop]
  omega
theorem sl_il {ns : List Int} {lo hi : Option Int} : slcP (.lst (il ns)) lo hi = .ok (.lst (il (cutZ ns lo hi))) := by
  show R.ok (PV.lst (cutP (il ns) lo hi)) = _
  rw [cut_il]
theorem intsOf_il : ∀ ns : List Int, intsOf (il ns) = some ns
  | [] => rfl
  | n :: ns => by
    show (intsOf (il ns)).map (n :: ·) = _
    rw [intsOf_il ns]
    rfl
theorem toVs_il : ∀ ns : List Int, toVs (il ns) = some (ns.map V.int)
  | [] => rfl
  | n :: ns => by
    show (match toV (.int n), toVs (il ns) with
      | some v, some vs => some (v :: vs)
      | _, _ => none) = _
    rw [toVs_il ns]
    rfl
theorem atI_nn {α : Type} {xs : List α} {i : Int} (h0 : 0 ≤ i) (h1 : i < xs.length) : atI xs i = xs[i.toNat]? := by
  unfold atI ixN
  rw [if_pos h0, if_pos h1]
  rfl
theorem atI_neg {α : Type} {xs : List α} {i : Int} (h0 : i < 0) (h1 : -(xs.length : Int) ≤ i) : atI xs i = xs[(i + xs.length).toNat]? := by
  unfold atI ixN
  rw [if_neg (by omega), if_pos h1]
  rfl
theorem datas_il : ∀ ns : List Int, PV.datas (il ns) = some (ns.map .int)
  | [] => by simp [il, PV.datas]
  | n :: ns => by
    show PV.datas (.int n :: il ns) = _
    simp only [PV.datas, PV.data]
    rw [datas_il ns]
    rfl

theorem eqvAll_ints : ∀ ns ms : List Int, PyData.eqvAll (ns.map PyData.int) (ms.map PyData.int) = decide (ns = ms)
  | [], [] => by simp [PyData.eqvAll]
  | [], _ :: _ => by simp [PyData.eqvAll]
  | _ :: _, [] => by simp [PyData.eqvAll]
  | a :: r, b :: t => by
    simp only [List.map_cons, PyData.eqvAll, PyData.eqv, eqvAll_ints r t]
    by_cases h : a = b <;> by_cases h' : r = t <;> simp [h, h']
theorem eqP_il (ns ms : List Int) : eqP (.lst (il ns)) (.lst (il ms)) = some (decide (ns = ms)) := by
  show eqG (.lst (il ns)) (.lst (il ms)) = _
  unfold eqG
  simp only [PV.data, datas_il, Option.map_some]
  rw [if_pos ⟨PySem.W.ke_shaped_ints ns, PySem.W.ke_shaped_ints ms⟩]
  show some (PyData.eqv (.list _) (.list _)) = _
  simp only [PyData.eqv, eqvAll_ints]
theorem cop_eqL (ns ms : List Int) : cop .eq (.lst (il ns)) (.lst (il ms)) = .ok (.bl (decide (ns = ms))) := by
  rw [cop_eq, eqP_il]
theorem cop_neL (ns ms : List Int) : cop .ne (.lst (il ns)) (.lst (il ms)) = .ok (.bl (!decide (ns = ms))) := by
  rw [cop_ne, eqP_il]

/-! ### step by step -/
section
variable {ρ ρ' : Env'} {cs a b : Cmds} {r : SR}
theorem go_set {i : Nat} {e : Exp} (v : PV) (h : evE e ρ = .ok v) (k : exSs cs (ρ.set i (.fr v)) = r) : exSs (.cons (.set i e) cs) ρ = r := by
  rw [xs_cons, x_set, h]
  exact k
theorem go_setO {i : Nat} {e : Exp} (xs : List PV) (h : evE e ρ = .ok (.lst xs)) (k : exSs cs (ρ.set i (.ow xs)) = r) : exSs (.cons (.setO i e) cs) ρ = r := by
  rw [xs_cons, x_setO, h]
  exact k
theorem go_frz {i : Nat} (k : exSs cs (MP.frz i ρ) = r) : exSs (.cons (.frz i) cs) ρ = r := by
  rw [xs_cons, x_frz]
  exact k
theorem go_app {i : Nat} {e : Exp} {xs : List PV} (v : PV) (h : evE e ρ = .ok v) (hs : sl ρ i = .ow xs) (hz : xs.length < 16777216) (k : exSs cs (ρ.set i (.ow (xs ++ [v]))) = r) : exSs (.cons (.app i e) cs) ρ = r := by
  rw [xs_cons, x_app, h, hs, ap_ok hz]
  exact k
theorem go_expr {e : Exp} (v : PV) (h : evE e ρ = .ok v) (k : exSs cs ρ = r) : exSs (.cons (.expr e) cs) ρ = r := by
  rw [xs_cons, x_expr, h]
  exact k
theorem go_iteT {c : Exp} (h : (evE c ρ).bnd truR = .ok true) (k : (exSs a ρ).bd (exSs cs) = r) : exSs (.cons (.ite c a b) cs) ρ = r := by
  rw [xs_cons, x_ite, h]
  exact k
theorem go_iteF {c : Exp} (h : (evE c ρ).bnd truR = .ok false) (k : (exSs b ρ).bd (exSs cs) = r) : exSs (.cons (.ite c a b) cs) ρ = r := by
  rw [xs_cons, x_ite, h]
  exact k
theorem go_skip0 {c : Exp} (h : (evE c ρ).bnd truR = .ok false) (k : exSs cs ρ = r) : exSs (.cons (.ite c a .nil) cs) ρ = r := by
  rw [xs_cons, x_ite, h]
  exact k
theorem go_bd {c : Cmd} (h : exS c ρ = .next ρ') (k : exSs cs ρ' = r) : exSs (.cons c cs) ρ = r := by
  rw [xs_cons, h]
  exact k
theorem go_for {tg : Tgt} {it : Itx} (xs : List PV) (h : evI it ρ false = .ok xs) (h2 : forR (exSs b) tg xs ρ = .next ρ') (k : exSs cs ρ' = r) : exSs (.cons (.for_ tg it b) cs) ρ = r := by
  rw [xs_cons, x_for, h]
  show (forR (exSs b) tg xs ρ).bd (exSs cs) = _
  rw [h2]
  exact k
theorem go_ret {e : Exp} {v : PV} (h : evE e ρ = .ok v) : exSs (.cons (.ret e) cs) ρ = .ret false v := by
  rw [xs_cons, x_ret, h]
  rfl
end
/-- the block behind n commands -/
def tlC : Nat → Cmds → Cmds
  | 0, c => c
  | n + 1, .cons _ cs => tlC n cs
  | _ + 1, .nil => .nil

/-! ### loops -/
theorem forR_ind {body : Env' → SR} {tg : Tgt} (I : Nat → Env' → Prop) : ∀ (xs : List PV) (k : Nat) (ρ : Env'), I k ρ → (∀ i x ρ, xs[i]? = some x → I (k + i) ρ → ∃ ρ1 ρ2, bindT tg x ρ = some ρ1 ∧ (body ρ1 = .next ρ2 ∨ body ρ1 = .cont ρ2) ∧ I (k + i + 1) ρ2) → ∃ ρ', forR body tg xs ρ = .next ρ' ∧ I (k + xs.length) ρ'
  | [], k, ρ, h, _ => ⟨ρ, rfl, h⟩
  | x :: xs, k, ρ, h, st => by
    obtain ⟨ρ1, ρ2, h1, h2, h3⟩ := st 0 x ρ rfl h
    obtain ⟨ρ', h4, h5⟩ := forR_ind I xs (k + 1) ρ2 (by simpa using h3) (fun i y ρ hy hi => by
      obtain ⟨a, b, k1, k2, k3⟩ := st (i + 1) y ρ (by simpa using hy) (by rw [show k + (i + 1) = k + 1 + i by omega]; exact hi)
      exact ⟨a, b, k1, k2, by rw [show k + 1 + i + 1 = k + (i + 1) + 1 by omega]; exact k3⟩)
    refine ⟨ρ', ?_, by rw [List.length_cons, show k + (xs.length + 1) = k + 1 + xs.length by omega]; exact h5⟩
    show (match bindT tg x ρ with
      | none => SR.stuck
      | some ρ1 => (match body ρ1 with
        | .next ρ2 => forR body tg xs ρ2
        | .cont ρ2 => forR body tg xs ρ2
        | .brk ρ2 => .next ρ2
        | r => r)) = _
    rw [h1]
    rcases h2 with h2 | h2
    · show (match body ρ1 with
        | .next ρ2 => forR body tg xs ρ2
        | .cont ρ2 => forR body tg xs ρ2
        | .brk ρ2 => .next ρ2
        | r => r) = _
      rw [h2]
      exact h4
    · show (match body ρ1 with
        | .next ρ2 => forR body tg xs ρ2
        | .cont ρ2 => forR body tg xs ρ2
        | .brk ρ2 => .next ρ2
        | r => r) = _
      rw [h2]
      exact h4
theorem forR_all {body : Env' → SR} {tg : Tgt} {xs : List PV} {ρ : Env'} (I : Nat → Env' → Prop) (h : I 0 ρ) (st : ∀ i x ρ, xs[i]? = some x → I i ρ → ∃ ρ1 ρ2, bindT tg x ρ = some ρ1 ∧ (body ρ1 = .next ρ2 ∨ body ρ1 = .cont ρ2) ∧ I (i + 1) ρ2) : ∃ ρ', forR body tg xs ρ = .next ρ' ∧ I xs.length ρ' := by
  obtain ⟨ρ', h1, h2⟩ := forR_ind I xs 0 ρ h (fun i x ρ hx hi => by
    rw [Nat.zero_add] at hi ⊢
    exact st i x ρ hx hi)
  rw [Nat.zero_add] at h2
  exact ⟨ρ', h1, h2⟩
theorem range_get {lo : Int} {n i : Nat} {x : PV} (h : (rangeP lo n)[i]? = some x) : i < n ∧ x = .int (lo + i) := by
  have hl : i < (rangeP lo n).length := (List.getElem?_eq_some_iff.mp h).1
  rw [rangeP_len] at hl
  rw [rangeP_get hl] at h
  exact ⟨hl, (Option.some.inj h).symm⟩
theorem forR_range {body : Env' → SR} {i0 : Nat} {lo : Int} {n : Nat} {ρ : Env'} (I : Nat → Env' → Prop) (h : I 0 ρ) (st : ∀ i ρ, i < n → I i ρ → ∃ ρ2, (body (ρ.set i0 (.fr (.int (lo + i)))) = .next ρ2 ∨ body (ρ.set i0 (.fr (.int (lo + i)))) = .cont ρ2) ∧ I (i + 1) ρ2) : ∃ ρ', forR body (.nm i0) (rangeP lo n) ρ = .next ρ' ∧ I n ρ' := by
  obtain ⟨ρ', h1, h2⟩ := forR_all (body := body) (tg := .nm i0) (xs := rangeP lo n) (ρ := ρ) I h (fun i x ρ hx hi => by
    obtain ⟨hl, rfl⟩ := range_get hx
    obtain ⟨ρ2, k1, k2⟩ := st i ρ hl hi
    exact ⟨_, ρ2, rfl, k1, k2⟩)
  rw [rangeP_len] at h2
  exact ⟨ρ', h1, h2⟩
theorem mapC_ok {f : PV → R (Option PV)} (g : PV → PV) : ∀ {xs : List PV}, (∀ x ∈ xs, f x = .ok (some (g x))) → mapC f xs = .ok (xs.map g)
  | [], _ => rfl
  | x :: xs, h => by
    unfold mapC
    rw [h x List.mem_cons_self, mapC_ok g (fun y hy => h y (List.mem_cons_of_mem _ hy))]
    rfl
theorem mapC_range {f : PV → R (Option PV)} {lo : Int} {n : Nat} (g : Nat → PV) (h : ∀ k, k < n → f (.int (lo + k)) = .ok (some (g k))) : mapC f (rangeP lo n) = .ok ((List.range n).map g) := by
  have key : ∀ (m : Nat) (xs : List Nat), (∀ k ∈ xs, k < n) → mapC f (xs.map fun (k : Nat) => .int (lo + (k : Int))) = .ok (xs.map g) := fun m xs => by
    induction xs with
    | nil => intro _; rfl
    | cons a xs ih =>
      intro hx
      show mapC f (.int (lo + (a : Int)) :: xs.map fun (k : Nat) => .int (lo + (k : Int))) = _
      unfold mapC
      rw [h a (hx a List.mem_cons_self), ih fun k hk => hx k (List.mem_cons_of_mem _ hk)]
      rfl
  exact key 0 (List.range n) fun k hk => List.mem_range.mp hk
/-- a comprehension over the values of a list -/
theorem mapC_list {f : PV → R (Option PV)} {α : Type} {mk : α → PV} (g : α → PV) : ∀ {xs : List α}, (∀ x ∈ xs, f (mk x) = .ok (some (g x))) → mapC f (xs.map mk) = .ok (xs.map g)
  | [], _ => rfl
  | x :: xs, h => by
    show mapC f (mk x :: xs.map mk) = _
    unfold mapC
    rw [h x List.mem_cons_self, mapC_list g (fun y hy => h y (List.mem_cons_of_mem _ hy))]
    rfl
end MP


namespace LW
open PySem PySem.Spec PyProof.Rows L2 MP
def top (i : Nat) : Stmt := PySem.Challenge.pw_noisepurse_k47_windows_and_tables.main.body.getD i (.Pass ⟨0, 0, 0, 0⟩)
/-! ### the defs -/
def n__law_wide : List Str := ["cell", "left", "state", "number", "k"]
def b__law_wide_0 : Cmds := (.cons (.set 2 (.bin .mod (.blt .int (.cons (.bin .mul (.var 2) (.int 48271)) .nil)) (.int 2147483647))) (.cons (.set 3 (.bin .add (.bin .mul (.var 3) (.int 1073741824)) (.bin .mod (.blt .int (.cons (.bin .add (.bin .fdiv (.var 2) (.int 5)) (.bin .mul (.var 2) (.int 3))) .nil)) (.int 1073741824)))) .nil))
def c__law_wide : Cmds := (.cons (.set 1 (.blt .abs (.cons (.var 0) .nil))) (.cons (.ite (.cmp .ge (.var 1) (.bin .pow (.int 10) (.int 18))) (.cons (.ret (.var 1)) .nil) .nil) (.cons (.set 2 (.bin .add (.bin .mod (.blt .int (.cons (.var 1) .nil)) (.int 2147483629)) (.int 1))) (.cons (.set 3 (.int 0)) (.cons (.for_ (.nm 4) (.r1 (.int 4)) b__law_wide_0) (.cons (.ret (.var 3)) .nil))))))
def r__law_wide (args : List PV) : R PV := runF false 1 5 c__law_wide args
def n__law_values : List Str := ["cell", "count", "low", "high", "values", "left", "great", "state", "k", "number"]
def b__law_values_0 : Cmds := (.cons (.set 7 (.bin .mod (.blt .int (.cons (.bin .mul (.var 7) (.int 48271)) .nil)) (.int 2147483647))) (.cons (.set 9 (.blt .int (.cons (.bin .fdiv (.bin .mul (.bin .mul (.var 7) (.var 7)) (.var 7)) (.int 5)) .nil))) (.cons (.ite (.and (.cons (.var 6) (.cons (.cmp .gt (.var 5) (.int 0)) .nil))) (.cons (.set 9 (.blt .int (.cons (.var 5) .nil))) (.cons (.set 5 (.bin .fdiv (.var 5) (.bin .add (.bin .sub (.var 3) (.var 2)) (.int 1)))) .nil)) .nil) (.cons (.app 4 (.bin .add (.var 2) (.bin .mod (.blt .int (.cons (.var 9) .nil)) (.bin .add (.bin .sub (.var 3) (.var 2)) (.int 1))))) .nil))))
def c__law_values : Cmds := (.cons (.setO 4 (.list .nil)) (.cons (.set 5 (.blt .abs (.cons (.var 0) .nil))) (.cons (.set 6 (.cmp .ge (.var 5) (.bin .pow (.int 10) (.int 18)))) (.cons (.set 7 (.bin .add (.bin .mod (.blt .int (.cons (.var 5) .nil)) (.int 2147483629)) (.int 1))) (.cons (.for_ (.nm 8) (.r1 (.var 1)) b__law_values_0) (.cons (.frz 4) (.cons (.ret (.var 4)) .nil)))))))
def r__law_values (args : List PV) : R PV := runF false 4 10 c__law_values args
def n_check_size : List Str := ["size"]
def c_check_size : Cmds := (.cons (.ite (.or (.cons (.not (.chain .le .le (.int 1) (.var 0) (.int 1024))) (.cons (.cmp .ne (.bin .band (.var 0) (.bin .sub (.var 0) (.int 1))) (.int 0)) .nil))) (.cons (.raise "OutOfRange" 1) .nil) .nil) .nil)
def r_check_size (args : List PV) : R PV := runF false 1 1 c_check_size args
def n_check_slots : List Str := ["degree", "slots"]
def c_check_slots : Cmds := (.cons (.expr (.call "check_size" r_check_size false [] (.cons (.var 0) .nil))) (.cons (.ite (.or (.cons (.cmp .lt (.var 1) (.int 1)) (.cons (.cmp .ne (.bin .band (.var 1) (.bin .sub (.var 1) (.int 1))) (.int 0)) (.cons (.cmp .gt (.bin .mul (.int 2) (.var 1)) (.var 0)) .nil)))) (.cons (.raise "OutOfRange" 1) .nil) .nil) .nil))
def r_check_slots (args : List PV) : R PV := runF false 2 2 c_check_slots args
def n_table_poly : List Str := ["degree", "table", "half", "items", "place"]
def c_table_poly : Cmds := (.cons (.expr (.call "check_slots" r_check_slots false [] (.cons (.var 0) (.cons (.blt .len (.cons (.var 1) .nil)) .nil)))) (.cons (.set 2 (.bin .fdiv (.var 0) (.bin .mul (.int 2) (.blt .len (.cons (.var 1) .nil))))) (.cons (.set 3 (.bin .add (.blt .list (.cons (.var 1) .nil)) (.list (.cons (.neg (.idx (.var 1) (.int 0))) .nil)))) (.cons (.ret (.comp (.idx (.var 3) (.bin .fdiv (.bin .add (.var 4) (.var 2)) (.bin .mul (.int 2) (.var 2)))) .omit (.nm 4) (.r1 (.var 0)) [("place", 4)])) .nil))))
def r_table_poly (args : List PV) : R PV := runF false 2 5 c_table_poly args
def n_check_modulus_slots : List Str := ["modulus", "slots"]
def c_check_modulus_slots : Cmds := (.cons (.ite (.or (.cons (.cmp .lt (.var 1) (.int 1)) (.cons (.cmp .ne (.bin .band (.var 1) (.bin .sub (.var 1) (.int 1))) (.int 0)) (.cons (.cmp .ne (.bin .mod (.var 0) (.bin .mul (.int 2) (.var 1))) (.int 0)) .nil)))) (.cons (.raise "OutOfRange" 1) .nil) .nil) .nil)
def r_check_modulus_slots (args : List PV) : R PV := runF false 2 2 c_check_modulus_slots args
def n_check_modulus : List Str := ["k"]
def c_check_modulus : Cmds := (.cons (.ite (.cmp .lt (.var 0) (.int 1)) (.cons (.raise "OutOfRange" 1) .nil) .nil) .nil)
def r_check_modulus (args : List PV) : R PV := runF false 1 1 c_check_modulus args
def n_centred : List Str := ["a", "k"]
def c_centred : Cmds := (.cons (.expr (.call "check_modulus" r_check_modulus false [] (.cons (.var 1) .nil))) (.cons (.ret (.bin .sub (.bin .fdiv (.var 1) (.int 2)) (.bin .mod (.bin .sub (.bin .fdiv (.var 1) (.int 2)) (.var 0)) (.var 1)))) .nil))
def r_centred (args : List PV) : R PV := runF false 2 2 c_centred args
def n_slot_message : List Str := ["modulus", "slots", "index"]
def c_slot_message : Cmds := (.cons (.expr (.call "check_modulus_slots" r_check_modulus_slots false [] (.cons (.var 0) (.cons (.var 1) .nil)))) (.cons (.ret (.call "centred" r_centred false [] (.cons (.bin .mul (.var 2) (.bin .fdiv (.var 0) (.bin .mul (.int 2) (.var 1)))) (.cons (.var 0) .nil)))) .nil))
def r_slot_message (args : List PV) : R PV := runF false 3 3 c_slot_message args
def n_slot_of : List Str := ["degree", "slots", "place", "half"]
def c_slot_of : Cmds := (.cons (.expr (.call "check_slots" r_check_slots false [] (.cons (.var 0) (.cons (.var 1) .nil)))) (.cons (.set 3 (.bin .fdiv (.var 0) (.bin .mul (.int 2) (.var 1)))) (.cons (.ret (.bin .fdiv (.bin .mod (.bin .add (.var 2) (.var 3)) (.bin .mul (.int 2) (.var 0))) (.bin .mul (.int 2) (.var 3)))) .nil)))
def r_slot_of (args : List PV) : R PV := runF false 3 4 c_slot_of args
def n__law_refuses : List Str := ["which", "modulus", "degree", "slots", "e"]
def c__law_refuses : Cmds := (.cons (.try_ (.cons (.ite (.cmp .eq (.var 0) (.int 0)) (.cons (.expr (.call "slot_message" r_slot_message false [] (.cons (.var 1) (.cons (.var 3) (.cons (.int 1) .nil))))) .nil) (.cons (.ite (.cmp .eq (.var 0) (.int 1)) (.cons (.expr (.call "slot_of" r_slot_of false [] (.cons (.var 2) (.cons (.var 3) (.cons (.int 1) .nil))))) .nil) (.cons (.expr (.call "table_poly" r_table_poly false [] (.cons (.var 2) (.cons (.bin .mul (.list (.cons (.int 3) .nil)) (.var 3)) .nil)))) .nil)) .nil)) .nil) "OutOfRange" 0 [(0, false), (1, true), (2, false)] 4 (.cons (.ret (.and (.cons (.isX 4 "PurseError" [(0, true), (1, true), (2, true)]) (.cons (.not (.isX 4 "Malformed" [(0, false), (1, false), (2, true)])) .nil)))) .nil)) (.cons (.ret (.bl false)) .nil))
def r__law_refuses (args : List PV) : R PV := runF false 4 5 c__law_refuses args
def n__law_cell : List Str := ["script", "k"]
def c__law_cell : Cmds := (.cons (.ite (.cmp .lt (.var 1) (.blt .len (.cons (.var 0) .nil))) (.cons (.ret (.blt .int (.cons (.idx (.var 0) (.var 1)) .nil))) .nil) .nil) (.cons (.ret (.int 0)) .nil))
def r__law_cell (args : List PV) : R PV := runF false 2 2 c__law_cell args
def n__law_is_integer : List Str := ["actual"]
def c__law_is_integer : Cmds := (.cons (.ret (.and (.cons (.isI (.var 0) "int") (.cons (.not (.isI (.var 0) "bool")) .nil)))) .nil)
def r__law_is_integer (args : List PV) : R PV := runF false 1 1 c__law_is_integer args
def n__law_centred : List Str := ["value", "modulus", "left"]
def c__law_centred : Cmds := (.cons (.set 2 (.bin .mod (.blt .int (.cons (.var 0) .nil)) (.var 1))) (.cons (.ite (.cmp .gt (.bin .mul (.int 2) (.var 2)) (.var 1)) (.cons (.set 2 (.bin .sub (.var 2) (.var 1))) .nil) .nil) (.cons (.ret (.var 2)) .nil)))
def r__law_centred (args : List PV) : R PV := runF false 2 3 c__law_centred args
def n__law_window : List Str := ["degree", "slots", "place", "half", "found", "slot"]
def b__law_window_0 : Cmds := (.cons (.ite (.chain .le .lt (.bin .sub (.int 0) (.var 3)) (.call "_law_centred" r__law_centred false [] (.cons (.bin .sub (.var 2) (.bin .mul (.bin .mul (.int 2) (.var 3)) (.var 5))) (.cons (.bin .mul (.int 2) (.var 0)) .nil))) (.var 3)) (.cons (.app 4 (.var 5)) .nil) .nil) .nil)
def c__law_window : Cmds := (.cons (.set 3 (.bin .fdiv (.var 0) (.bin .mul (.int 2) (.var 1)))) (.cons (.setO 4 (.list .nil)) (.cons (.for_ (.nm 5) (.r1 (.bin .mul (.int 2) (.var 1))) b__law_window_0) (.cons (.frz 4) (.cons (.ret (.var 4)) .nil)))))
def r__law_window (args : List PV) : R PV := runF false 3 6 c__law_window args
def n_law : List Str := ["script", "cell", "degree", "many", "slots", "turn", "table", "given", "poly", "value", "places", "k", "place", "found", "at", "item", "due", "modulus", "index", "wrong"]
def b_law_0 : Cmds := (.cons (.ite (.cmp .le (.bin .mul (.int 4) (.var 4)) (.var 2)) (.cons (.set 4 (.bin .mul (.int 2) (.var 4))) .nil) .nil) .nil)
def b_law_1 : Cmds := (.cons (.ite (.not (.call "_law_is_integer" r__law_is_integer false [] (.cons (.var 9) .nil))) (.cons (.ret (.bl false)) .nil) .nil) .nil)
def b_law_2 : Cmds := (.cons (.set 13 (.call "slot_of" r_slot_of false [] (.cons (.var 2) (.cons (.var 4) (.cons (.var 12) .nil))))) (.cons (.ite (.or (.cons (.not (.call "_law_is_integer" r__law_is_integer false [] (.cons (.var 13) .nil))) (.cons (.cmp .ne (.list (.cons (.var 13) .nil)) (.call "_law_window" r__law_window false [] (.cons (.var 2) (.cons (.var 4) (.cons (.var 12) .nil))))) .nil))) (.cons (.ret (.bl false)) .nil) .nil) (.cons (.set 14 (.bin .mod (.blt .int (.cons (.var 12) .nil)) (.bin .mul (.int 2) (.var 2)))) (.cons (.set 15 (.idx (.var 8) (.bin .mod (.blt .int (.cons (.var 14) .nil)) (.var 2)))) (.cons (.ite (.cmp .ge (.var 14) (.var 2)) (.cons (.set 15 (.bin .sub (.int 0) (.var 15))) .nil) .nil) (.cons (.set 16 (.idx (.var 6) (.bin .mod (.blt .int (.cons (.var 13) .nil)) (.var 4)))) (.cons (.ite (.cmp .ge (.var 13) (.var 4)) (.cons (.set 16 (.bin .sub (.int 0) (.var 16))) .nil) .nil) (.cons (.ite (.cmp .ne (.var 15) (.var 16)) (.cons (.ret (.bl false)) .nil) .nil) .nil))))))))
def b_law_3 : Cmds := (.cons (.set 13 (.call "slot_message" r_slot_message false [] (.cons (.var 17) (.cons (.var 4) (.cons (.var 18) .nil))))) (.cons (.ite (.or (.cons (.not (.call "_law_is_integer" r__law_is_integer false [] (.cons (.var 13) .nil))) (.cons (.cmp .ne (.var 13) (.call "_law_centred" r__law_centred false [] (.cons (.bin .mul (.var 18) (.bin .fdiv (.var 17) (.bin .mul (.int 2) (.var 4)))) (.cons (.var 17) .nil)))) .nil))) (.cons (.ret (.bl false)) .nil) .nil) (.cons (.ite (.cmp .ne (.var 13) (.call "slot_message" r_slot_message false [] (.cons (.var 17) (.cons (.var 4) (.cons (.bin .add (.var 18) (.bin .mul (.int 2) (.var 4))) .nil))))) (.cons (.ret (.bl false)) .nil) .nil) .nil)))
def b_law_4 : Cmds := (.cons (.ite (.or (.cons (.not (.call "_law_refuses" r__law_refuses false [] (.cons (.int 1) (.cons (.var 17) (.cons (.var 2) (.cons (.var 19) .nil)))))) (.cons (.not (.call "_law_refuses" r__law_refuses false [] (.cons (.int 2) (.cons (.var 17) (.cons (.var 2) (.cons (.var 19) .nil)))))) .nil))) (.cons (.ret (.bl false)) .nil) .nil) .nil)
def b_law_5 : Cmds := (.cons (.ite (.or (.cons (.not (.call "_law_refuses" r__law_refuses false [] (.cons (.int 0) (.cons (.var 17) (.cons (.var 2) (.cons (.var 19) .nil)))))) (.cons (.not (.call "_law_refuses" r__law_refuses false [] (.cons (.int 1) (.cons (.var 17) (.cons (.var 2) (.cons (.var 19) .nil)))))) .nil))) (.cons (.ret (.bl false)) .nil) .nil) .nil)
def c_law : Cmds := (.cons (.set 1 (.call "_law_wide" r__law_wide false [] (.cons (.call "_law_cell" r__law_cell false [] (.cons (.var 0) (.cons (.int 0) .nil))) .nil))) (.cons (.set 2 (.bin .shl (.int 2) (.bin .mod (.blt .int (.cons (.var 1) .nil)) (.int 5)))) (.cons (.set 3 (.bin .mod (.blt .int (.cons (.bin .fdiv (.var 1) (.int 8)) .nil)) (.int 5))) (.cons (.ite (.cmp .eq (.bin .mod (.blt .int (.cons (.bin .fdiv (.bin .fdiv (.var 1) (.bin .pow (.int 2) (.int 64))) (.int 4)) .nil)) (.int 8)) (.int 3)) (.cons (.set 2 (.bin .shl (.int 64) (.bin .mod (.blt .int (.cons (.var 1) .nil)) (.int 5)))) (.cons (.set 3 (.bin .mod (.blt .int (.cons (.bin .fdiv (.var 1) (.int 8)) .nil)) (.int 10))) .nil)) .nil) (.cons (.set 4 (.int 1)) (.cons (.for_ (.nm 5) (.r1 (.var 3)) b_law_0) (.cons (.set 6 (.call "_law_values" r__law_values false [] (.cons (.call "_law_cell" r__law_cell false [] (.cons (.var 0) (.cons (.int 1) .nil))) (.cons (.var 4) (.cons (.neg (.int 1000)) (.cons (.int 1000) .nil)))))) (.cons (.set 7 (.blt .list (.cons (.var 6) .nil))) (.cons (.set 8 (.call "table_poly" r_table_poly false [] (.cons (.var 2) (.cons (.var 7) .nil)))) (.cons (.ite (.or (.cons (.not (.isI (.var 8) "list")) (.cons (.cmp .ne (.blt .len (.cons (.var 8) .nil)) (.var 2)) (.cons (.cmp .ne (.var 7) (.var 6)) .nil)))) (.cons (.ret (.bl false)) .nil) .nil) (.cons (.for_ (.nm 9) (.seq (.var 8)) b_law_1) (.cons (.set 10 (.bin .add (.list (.cons (.call "_law_cell" r__law_cell false [] (.cons (.var 0) (.cons (.int 2) .nil))) (.cons (.call "_law_cell" r__law_cell false [] (.cons (.var 0) (.cons (.int 3) .nil))) .nil))) (.comp (.var 11) .omit (.nm 11) (.r1 (.bin .mul (.int 2) (.var 2))) [("k", 11)]))) (.cons (.ite (.cmp .gt (.var 2) (.int 32)) (.cons (.set 10 (.bin .add (.bin .add (.slc (.var 10) .omit (.int 12)) (.call "_law_values" r__law_values false [] (.cons (.call "_law_cell" r__law_cell false [] (.cons (.var 0) (.cons (.int 2) .nil))) (.cons (.int 20) (.cons (.int 0) (.cons (.bin .mul (.int 2) (.var 2)) .nil)))))) (.slc (.var 10) (.bin .sub (.blt .len (.cons (.var 10) .nil)) (.int 10)) .omit))) .nil) .nil) (.cons (.for_ (.nm 12) (.seq (.var 10)) b_law_2) (.cons (.set 17 (.bin .mul (.bin .mul (.int 2) (.var 4)) (.bin .add (.int 1) (.bin .mod (.blt .int (.cons (.bin .fdiv (.var 1) (.int 64)) .nil)) (.int 1000))))) (.cons (.for_ (.nm 18) (.seq (.list (.cons (.call "_law_cell" r__law_cell false [] (.cons (.var 0) (.cons (.int 4) .nil))) (.cons (.int 0) (.cons (.var 4) (.cons (.bin .sub (.bin .mul (.int 2) (.var 4)) (.int 1)) (.cons (.bin .sub (.var 4) (.int 1)) .nil))))))) b_law_3) (.cons (.ite (.not (.call "_law_refuses" r__law_refuses false [] (.cons (.int 0) (.cons (.bin .add (.var 17) (.int 1)) (.cons (.var 2) (.cons (.var 4) .nil)))))) (.cons (.ret (.bl false)) .nil) .nil) (.cons (.for_ (.nm 19) (.seq (.list (.cons (.int 3) (.cons (.int 5) (.cons (.int 6) (.cons (.var 2) (.cons (.bin .mul (.int 2) (.var 2)) .nil))))))) b_law_4) (.cons (.for_ (.nm 19) (.seq (.list (.cons (.int 0) (.cons (.neg (.int 1)) (.cons (.neg (.int 2)) .nil))))) b_law_5) (.cons (.ite (.not (.call "_law_refuses" r__law_refuses false [] (.cons (.int 0) (.cons (.bin .mul (.int 6) (.var 17)) (.cons (.var 2) (.cons (.int 3) .nil)))))) (.cons (.ret (.bl false)) .nil) .nil) (.cons (.ret (.call "_law_refuses" r__law_refuses false [] (.cons (.int 2) (.cons (.var 17) (.cons (.var 2) (.cons (.int 0) .nil)))))) .nil)))))))))))))))))))))
def r_law (args : List PV) : R PV := runF false 1 20 c_law args
/-! ### the checks -/
theorem k__law_wide : chkSs n__law_wide (defScope (top 18)) (fun _ => true) c__law_wide (defBody (top 18)) = true := by decide +kernel
theorem s__law_wide : FnScope n__law_wide ["cell"] (defScope (top 18)) := ⟨rfl, rfl, rfl, by decide +kernel, rfl, by decide +kernel, by decide +kernel⟩
theorem k__law_values : chkSs n__law_values (defScope (top 19)) (fun _ => true) c__law_values (defBody (top 19)) = true := by decide +kernel
theorem s__law_values : FnScope n__law_values ["cell", "count", "low", "high"] (defScope (top 19)) := ⟨rfl, rfl, rfl, by decide +kernel, rfl, by decide +kernel, by decide +kernel⟩
theorem k_check_size : chkSs n_check_size (defScope (top 8)) (fun _ => true) c_check_size (defBody (top 8)) = true := by decide +kernel
theorem s_check_size : FnScope n_check_size ["size"] (defScope (top 8)) := ⟨rfl, rfl, rfl, by decide +kernel, rfl, by decide +kernel, by decide +kernel⟩
theorem k_check_slots : chkSs n_check_slots (defScope (top 10)) (fun _ => true) c_check_slots (defBody (top 10)) = true := by decide +kernel
theorem s_check_slots : FnScope n_check_slots ["degree", "slots"] (defScope (top 10)) := ⟨rfl, rfl, rfl, by decide +kernel, rfl, by decide +kernel, by decide +kernel⟩
theorem k_table_poly : chkSs n_table_poly (defScope (top 14)) (fun _ => true) c_table_poly (defBody (top 14)) = true := by decide +kernel
theorem s_table_poly : FnScope n_table_poly ["degree", "table"] (defScope (top 14)) := ⟨rfl, rfl, rfl, by decide +kernel, rfl, by decide +kernel, by decide +kernel⟩
theorem k_check_modulus_slots : chkSs n_check_modulus_slots (defScope (top 11)) (fun _ => true) c_check_modulus_slots (defBody (top 11)) = true := by decide +kernel
theorem s_check_modulus_slots : FnScope n_check_modulus_slots ["modulus", "slots"] (defScope (top 11)) := ⟨rfl, rfl, rfl, by decide +kernel, rfl, by decide +kernel, by decide +kernel⟩
theorem k_check_modulus : chkSs n_check_modulus (defScope (top 5)) (fun _ => true) c_check_modulus (defBody (top 5)) = true := by decide +kernel
theorem s_check_modulus : FnScope n_check_modulus ["k"] (defScope (top 5)) := ⟨rfl, rfl, rfl, by decide +kernel, rfl, by decide +kernel, by decide +kernel⟩
theorem k_centred : chkSs n_centred (defScope (top 6)) (fun _ => true) c_centred (defBody (top 6)) = true := by decide +kernel
theorem s_centred : FnScope n_centred ["a", "k"] (defScope (top 6)) := ⟨rfl, rfl, rfl, by decide +kernel, rfl, by decide +kernel, by decide +kernel⟩
theorem k_slot_message : chkSs n_slot_message (defScope (top 12)) (fun _ => true) c_slot_message (defBody (top 12)) = true := by decide +kernel
theorem s_slot_message : FnScope n_slot_message ["modulus", "slots", "index"] (defScope (top 12)) := ⟨rfl, rfl, rfl, by decide +kernel, rfl, by decide +kernel, by decide +kernel⟩
theorem k_slot_of : chkSs n_slot_of (defScope (top 13)) (fun _ => true) c_slot_of (defBody (top 13)) = true := by decide +kernel
theorem s_slot_of : FnScope n_slot_of ["degree", "slots", "place"] (defScope (top 13)) := ⟨rfl, rfl, rfl, by decide +kernel, rfl, by decide +kernel, by decide +kernel⟩
theorem k__law_refuses : chkSs n__law_refuses (defScope (top 21)) (fun _ => true) c__law_refuses (defBody (top 21)) = true := by decide +kernel
theorem s__law_refuses : FnScope n__law_refuses ["which", "modulus", "degree", "slots"] (defScope (top 21)) := ⟨rfl, rfl, rfl, by decide +kernel, rfl, by decide +kernel, by decide +kernel⟩
theorem k__law_cell : chkSs n__law_cell (defScope (top 16)) (fun _ => true) c__law_cell (defBody (top 16)) = true := by decide +kernel
theorem s__law_cell : FnScope n__law_cell ["script", "k"] (defScope (top 16)) := ⟨rfl, rfl, rfl, by decide +kernel, rfl, by decide +kernel, by decide +kernel⟩
theorem k__law_is_integer : chkSs n__law_is_integer (defScope (top 17)) (fun _ => true) c__law_is_integer (defBody (top 17)) = true := by decide +kernel
theorem s__law_is_integer : FnScope n__law_is_integer ["actual"] (defScope (top 17)) := ⟨rfl, rfl, rfl, by decide +kernel, rfl, by decide +kernel, by decide +kernel⟩
theorem k__law_centred : chkSs n__law_centred (defScope (top 20)) (fun _ => true) c__law_centred (defBody (top 20)) = true := by decide +kernel
theorem s__law_centred : FnScope n__law_centred ["value", "modulus"] (defScope (top 20)) := ⟨rfl, rfl, rfl, by decide +kernel, rfl, by decide +kernel, by decide +kernel⟩
theorem k__law_window : chkSs n__law_window (defScope (top 22)) (fun _ => true) c__law_window (defBody (top 22)) = true := by decide +kernel
theorem s__law_window : FnScope n__law_window ["degree", "slots", "place"] (defScope (top 22)) := ⟨rfl, rfl, rfl, by decide +kernel, rfl, by decide +kernel, by decide +kernel⟩
theorem k_law : chkSs n_law (defScope (top 23)) (fun _ => true) c_law (defBody (top 23)) = true := by decide +kernel
theorem s_law : FnScope n_law ["script"] (defScope (top 23)) := ⟨rfl, rfl, rfl, by decide +kernel, rfl, by decide +kernel, by decide +kernel⟩
/-! ### what the head tells -/
def cn : Nat → Str
  | 0 => "PurseError"
  | 1 => "OutOfRange"
  | 2 => "Malformed"
  | _ => "law"
def cf : Nat → List Str
  | _ => []
noncomputable def gx (K : PySem.W.Frag) : Gx := ⟨fun c => He.ga K (cn c), cf⟩
def d__law_wide : He.DefD := ⟨("_law_wide", none), "_law_wide", "_law_wide", defArgs (top 18), defBody (top 18), defScope (top 18), [], []⟩
def d__law_values : He.DefD := ⟨("_law_values", none), "_law_values", "_law_values", defArgs (top 19), defBody (top 19), defScope (top 19), [], []⟩
def d_check_size : He.DefD := ⟨("check_size", none), "check_size", "check_size", defArgs (top 8), defBody (top 8), defScope (top 8), [], []⟩
def d_check_slots : He.DefD := ⟨("check_slots", none), "check_slots", "check_slots", defArgs (top 10), defBody (top 10), defScope (top 10), [], []⟩
def d_table_poly : He.DefD := ⟨("table_poly", none), "table_poly", "table_poly", defArgs (top 14), defBody (top 14), defScope (top 14), [], []⟩
def d_check_modulus_slots : He.DefD := ⟨("check_modulus_slots", none), "check_modulus_slots", "check_modulus_slots", defArgs (top 11), defBody (top 11), defScope (top 11), [], []⟩
def d_check_modulus : He.DefD := ⟨("check_modulus", none), "check_modulus", "check_modulus", defArgs (top 5), defBody (top 5), defScope (top 5), [], []⟩
def d_centred : He.DefD := ⟨("centred", none), "centred", "centred", defArgs (top 6), defBody (top 6), defScope (top 6), [], []⟩
def d_slot_message : He.DefD := ⟨("slot_message", none), "slot_message", "slot_message", defArgs (top 12), defBody (top 12), defScope (top 12), [], []⟩
def d_slot_of : He.DefD := ⟨("slot_of", none), "slot_of", "slot_of", defArgs (top 13), defBody (top 13), defScope (top 13), [], []⟩
def d__law_refuses : He.DefD := ⟨("_law_refuses", none), "_law_refuses", "_law_refuses", defArgs (top 21), defBody (top 21), defScope (top 21), [], []⟩
def d__law_cell : He.DefD := ⟨("_law_cell", none), "_law_cell", "_law_cell", defArgs (top 16), defBody (top 16), defScope (top 16), [], []⟩
def d__law_is_integer : He.DefD := ⟨("_law_is_integer", none), "_law_is_integer", "_law_is_integer", defArgs (top 17), defBody (top 17), defScope (top 17), [], []⟩
def d__law_centred : He.DefD := ⟨("_law_centred", none), "_law_centred", "_law_centred", defArgs (top 20), defBody (top 20), defScope (top 20), [], []⟩
def d__law_window : He.DefD := ⟨("_law_window", none), "_law_window", "_law_window", defArgs (top 22), defBody (top 22), defScope (top 22), [], []⟩
def d_law : He.DefD := ⟨("law", none), "law", "law", defArgs (top 23), defBody (top 23), defScope (top 23), [], []⟩
def fb : List Fb := [.fa (.free "abs"), .fa (.free "bool"), .fa (.free "int"), .fa (.free "isinstance"), .fa (.free "len"), .fa (.free "list"), .fa (.free "range"), .fa (.glo "Malformed"), .fa (.glo "OutOfRange"), .fa (.glo "PurseError"), .fa (.exc "OutOfRange"), .xc "Malformed", .fa (.exm "Malformed" "OutOfRange" false), .xc "OutOfRange", .fa (.exm "OutOfRange" "OutOfRange" true), .xc "PurseError", .fa (.exm "PurseError" "OutOfRange" false), .kit "Malformed" "Malformed" true, .kit "OutOfRange" "Malformed" false, .kit "PurseError" "Malformed" false, .kit "Malformed" "PurseError" true, .kit "OutOfRange" "PurseError" true, .kit "PurseError" "PurseError" true, .fa (.glo "_law_wide"), .fa (.glo "_law_values"), .fa (.glo "check_size"), .fa (.glo "check_slots"), .fa (.glo "table_poly"), .fa (.glo "check_modulus_slots"), .fa (.glo "check_modulus"), .fa (.glo "centred"), .fa (.glo "slot_message"), .fa (.glo "slot_of"), .fa (.glo "_law_refuses"), .fa (.glo "_law_cell"), .fa (.glo "_law_is_integer"), .fa (.glo "_law_centred"), .fa (.glo "_law_window"), .fa (.glo "law")]
def fn : List He.DefD := [d__law_wide, d__law_values, d_check_size, d_check_slots, d_table_poly, d_check_modulus_slots, d_check_modulus, d_centred, d_slot_message, d_slot_of, d__law_refuses, d__law_cell, d__law_is_integer, d__law_centred, d__law_window, d_law]
theorem fr_abs {K : PySem.W.Frag} {mg : Str → Option Value} {base : Heap} (c : SaysM fb fn K) (Gm : base.Ns mainGlobals mg) (X : K.In base) : mg "abs" = none := He.free_ok X Gm (c.fact 0 (f := .fa (.free "abs")) rfl)
theorem fr_bool {K : PySem.W.Frag} {mg : Str → Option Value} {base : Heap} (c : SaysM fb fn K) (Gm : base.Ns mainGlobals mg) (X : K.In base) : mg "bool" = none := He.free_ok X Gm (c.fact 1 (f := .fa (.free "bool")) rfl)
theorem fr_int {K : PySem.W.Frag} {mg : Str → Option Value} {base : Heap} (c : SaysM fb fn K) (Gm : base.Ns mainGlobals mg) (X : K.In base) : mg "int" = none := He.free_ok X Gm (c.fact 2 (f := .fa (.free "int")) rfl)
theorem fr_isinstance {K : PySem.W.Frag} {mg : Str → Option Value} {base : Heap} (c : SaysM fb fn K) (Gm : base.Ns mainGlobals mg) (X : K.In base) : mg "isinstance" = none := He.free_ok X Gm (c.fact 3 (f := .fa (.free "isinstance")) rfl)
theorem fr_len {K : PySem.W.Frag} {mg : Str → Option Value} {base : Heap} (c : SaysM fb fn K) (Gm : base.Ns mainGlobals mg) (X : K.In base) : mg "len" = none := He.free_ok X Gm (c.fact 4 (f := .fa (.free "len")) rfl)
theorem fr_list {K : PySem.W.Frag} {mg : Str → Option Value} {base : Heap} (c : SaysM fb fn K) (Gm : base.Ns mainGlobals mg) (X : K.In base) : mg "list" = none := He.free_ok X Gm (c.fact 5 (f := .fa (.free "list")) rfl)
theorem fr_range {K : PySem.W.Frag} {mg : Str → Option Value} {base : Heap} (c : SaysM fb fn K) (Gm : base.Ns mainGlobals mg) (X : K.In base) : mg "range" = none := He.free_ok X Gm (c.fact 6 (f := .fa (.free "range")) rfl)
theorem gx_Malformed {K : PySem.W.Frag} {mg : Str → Option Value} {base : Heap} (c : SaysM fb fn K) (Gm : base.Ns mainGlobals mg) (X : K.In base) : mg "Malformed" = some (.ref ((gx K).cl 2)) := He.glo_ok X Gm (c.fact 7 (f := .fa (.glo "Malformed")) rfl)
theorem gx_OutOfRange {K : PySem.W.Frag} {mg : Str → Option Value} {base : Heap} (c : SaysM fb fn K) (Gm : base.Ns mainGlobals mg) (X : K.In base) : mg "OutOfRange" = some (.ref ((gx K).cl 1)) := He.glo_ok X Gm (c.fact 8 (f := .fa (.glo "OutOfRange")) rfl)
theorem gx_PurseError {K : PySem.W.Frag} {mg : Str → Option Value} {base : Heap} (c : SaysM fb fn K) (Gm : base.Ns mainGlobals mg) (X : K.In base) : mg "PurseError" = some (.ref ((gx K).cl 0)) := He.glo_ok X Gm (c.fact 9 (f := .fa (.glo "PurseError")) rfl)
theorem rc_OutOfRange {K : PySem.W.Frag} (c : SaysM fb fn K) : RaiseC K ((gx K).cl 1) := rc_of (c.fact 10 (f := .fa (.exc "OutOfRange")) rfl)
theorem ex_OutOfRange {K : PySem.W.Frag} (c : SaysM fb fn K) : ∀ p ∈ ([(0, false), (1, true), (2, false)] : List (Nat × Bool)), ExcC K ((gx K).cl p.1) ∧ PySem.W.exmOne K (.ref ((gx K).cl p.1)) (.ref ((gx K).cl 1)) = some p.2 := all_cons (⟨xc_of (c.fact 15 (f := .xc "PurseError") rfl), He.exm_ok (x := "PurseError") (y := "OutOfRange") (c.fact 16 (f := .fa (.exm "PurseError" "OutOfRange" false)) rfl)⟩) (all_cons (⟨xc_of (c.fact 13 (f := .xc "OutOfRange") rfl), He.exm_ok (x := "OutOfRange") (y := "OutOfRange") (c.fact 14 (f := .fa (.exm "OutOfRange" "OutOfRange" true)) rfl)⟩) (all_cons (⟨xc_of (c.fact 11 (f := .xc "Malformed") rfl), He.exm_ok (x := "Malformed") (y := "OutOfRange") (c.fact 12 (f := .fa (.exm "Malformed" "OutOfRange" false)) rfl)⟩) (fun _ h => nomatch h)))
theorem kx_Malformed {K : PySem.W.Frag} (c : SaysM fb fn K) : ∀ p ∈ ([(0, false), (1, false), (2, true)] : List (Nat × Bool)), PySem.W.kitOne K (.ref ((gx K).cl p.1)) (.ref ((gx K).cl 2)) = some p.2 := all_cons (kx_of (x := "PurseError") (y := "Malformed") (c.fact 19 (f := .kit "PurseError" "Malformed" false) rfl)) (all_cons (kx_of (x := "OutOfRange") (y := "Malformed") (c.fact 18 (f := .kit "OutOfRange" "Malformed" false) rfl)) (all_cons (kx_of (x := "Malformed") (y := "Malformed") (c.fact 17 (f := .kit "Malformed" "Malformed" true) rfl)) (fun _ h => nomatch h)))
theorem kx_PurseError {K : PySem.W.Frag} (c : SaysM fb fn K) : ∀ p ∈ ([(0, true), (1, true), (2, true)] : List (Nat × Bool)), PySem.W.kitOne K (.ref ((gx K).cl p.1)) (.ref ((gx K).cl 0)) = some p.2 := all_cons (kx_of (x := "PurseError") (y := "PurseError") (c.fact 22 (f := .kit "PurseError" "PurseError" true) rfl)) (all_cons (kx_of (x := "OutOfRange") (y := "PurseError") (c.fact 21 (f := .kit "OutOfRange" "PurseError" true) rfl)) (all_cons (kx_of (x := "Malformed") (y := "PurseError") (c.fact 20 (f := .kit "Malformed" "PurseError" true) rfl)) (fun _ h => nomatch h)))
theorem ob_b__law_wide_0 {P : Program} {w : World} {K : PySem.W.Frag} {mg : Str → Option Value} {base : Heap} (c : SaysM fb fn K) (Gm : base.Ns mainGlobals mg) (X : K.In base) {N : List Str} {sc : Scope} {L : Nat} (hL : 0 ≤ L) : OkSs (czOf P w K mg base N sc L (gx K)) b__law_wide_0 := ⟨⟨⟨fr_int c Gm X, ⟨⟨trivial, trivial⟩, trivial⟩⟩, trivial⟩, ⟨⟨⟨trivial, trivial⟩, ⟨⟨fr_int c Gm X, ⟨⟨⟨trivial, trivial⟩, ⟨trivial, trivial⟩⟩, trivial⟩⟩, trivial⟩⟩, trivial⟩⟩
theorem ok__law_wide {P : Program} {w : World} {K : PySem.W.Frag} {mg : Str → Option Value} {base : Heap} (c : SaysM fb fn K) (Gm : base.Ns mainGlobals mg) (X : K.In base) {N : List Str} {sc : Scope} {L : Nat} (hL : 0 ≤ L) : OkSs (czOf P w K mg base N sc L (gx K)) c__law_wide := ⟨⟨fr_abs c Gm X, ⟨trivial, trivial⟩⟩, ⟨⟨⟨trivial, ⟨trivial, trivial⟩⟩, ⟨trivial, trivial⟩, trivial⟩, ⟨⟨⟨⟨fr_int c Gm X, ⟨trivial, trivial⟩⟩, trivial⟩, trivial⟩, ⟨trivial, ⟨⟨⟨fr_range c Gm X, trivial⟩, ob_b__law_wide_0 c Gm X hL⟩, ⟨trivial, trivial⟩⟩⟩⟩⟩⟩
theorem fo__law_wide {P : Program} {w : World} {K : PySem.W.Frag} {mg : Str → Option Value} {base : Heap} (c : SaysM fb fn K) (Gm : base.Ns mainGlobals mg) (X : K.In base) {fd : FuncData} (F : FunD K d__law_wide.name d__law_wide.qual d__law_wide.params d__law_wide.body d__law_wide.scope (d__law_wide.dvs K) (d__law_wide.kws K) (He.fAd K d__law_wide.at_) fd) : FnOk P w K mg base (L2.CX P w) 1 (He.fAd K d__law_wide.at_) fd ["cell"] (spOf K (gx K) false 1 r__law_wide) := fn_sound F s__law_wide k__law_wide (ok__law_wide c Gm X (Nat.le_refl _))
theorem co__law_wide {P : Program} {w : World} {K : PySem.W.Frag} {mg : Str → Option Value} {base : Heap} (c : SaysM fb fn K) (Gm : base.Ns mainGlobals mg) (X : K.In base) {N : List Str} {sc : Scope} {L : Nat} (hL : 1 ≤ L) : CallOk (czOf P w K mg base N sc L (gx K)) "_law_wide" r__law_wide false [] := by
  obtain ⟨fd, F⟩ := c.def_ 0 (d := d__law_wide) rfl
  obtain ⟨ds, hv, hb⟩ : ∃ ds, Vals [] ds ∧ Binds K fd ["cell"] ds := ⟨[], .nil, FunD.bindsN (ps := ["cell"]) F fun _ _ _ _ _ _ us hl => match us, hl with | [_], _ => rfl⟩
  exact ⟨_, fd, 1, ["cell"], [], ds, fo__law_wide c Gm X F, hL, He.glo_ok X Gm (c.fact 23 (f := .fa (.glo "_law_wide")) rfl), F.kp, hb, rfl, hv, runF_len⟩
theorem ob_b__law_values_0 {P : Program} {w : World} {K : PySem.W.Frag} {mg : Str → Option Value} {base : Heap} (c : SaysM fb fn K) (Gm : base.Ns mainGlobals mg) (X : K.In base) {N : List Str} {sc : Scope} {L : Nat} (hL : 0 ≤ L) : OkSs (czOf P w K mg base N sc L (gx K)) b__law_values_0 := ⟨⟨⟨fr_int c Gm X, ⟨⟨trivial, trivial⟩, trivial⟩⟩, trivial⟩, ⟨⟨fr_int c Gm X, ⟨⟨⟨⟨trivial, trivial⟩, trivial⟩, trivial⟩, trivial⟩⟩, ⟨⟨⟨trivial, ⟨⟨trivial, trivial⟩, trivial⟩⟩, ⟨⟨fr_int c Gm X, ⟨trivial, trivial⟩⟩, ⟨⟨trivial, ⟨⟨trivial, trivial⟩, trivial⟩⟩, trivial⟩⟩, trivial⟩, ⟨⟨trivial, ⟨⟨fr_int c Gm X, ⟨trivial, trivial⟩⟩, ⟨⟨trivial, trivial⟩, trivial⟩⟩⟩, trivial⟩⟩⟩⟩
theorem ok__law_values {P : Program} {w : World} {K : PySem.W.Frag} {mg : Str → Option Value} {base : Heap} (c : SaysM fb fn K) (Gm : base.Ns mainGlobals mg) (X : K.In base) {N : List Str} {sc : Scope} {L : Nat} (hL : 0 ≤ L) : OkSs (czOf P w K mg base N sc L (gx K)) c__law_values := ⟨trivial, ⟨⟨fr_abs c Gm X, ⟨trivial, trivial⟩⟩, ⟨⟨trivial, ⟨trivial, trivial⟩⟩, ⟨⟨⟨⟨fr_int c Gm X, ⟨trivial, trivial⟩⟩, trivial⟩, trivial⟩, ⟨⟨⟨fr_range c Gm X, trivial⟩, ob_b__law_values_0 c Gm X hL⟩, ⟨trivial, ⟨trivial, trivial⟩⟩⟩⟩⟩⟩⟩
theorem fo__law_values {P : Program} {w : World} {K : PySem.W.Frag} {mg : Str → Option Value} {base : Heap} (c : SaysM fb fn K) (Gm : base.Ns mainGlobals mg) (X : K.In base) {fd : FuncData} (F : FunD K d__law_values.name d__law_values.qual d__law_values.params d__law_values.body d__law_values.scope (d__law_values.dvs K) (d__law_values.kws K) (He.fAd K d__law_values.at_) fd) : FnOk P w K mg base (L2.CX P w) 1 (He.fAd K d__law_values.at_) fd ["cell", "count", "low", "high"] (spOf K (gx K) false 4 r__law_values) := fn_sound F s__law_values k__law_values (ok__law_values c Gm X (Nat.le_refl _))
theorem co__law_values {P : Program} {w : World} {K : PySem.W.Frag} {mg : Str → Option Value} {base : Heap} (c : SaysM fb fn K) (Gm : base.Ns mainGlobals mg) (X : K.In base) {N : List Str} {sc : Scope} {L : Nat} (hL : 1 ≤ L) : CallOk (czOf P w K mg base N sc L (gx K)) "_law_values" r__law_values false [] := by
  obtain ⟨fd, F⟩ := c.def_ 1 (d := d__law_values) rfl
  obtain ⟨ds, hv, hb⟩ : ∃ ds, Vals [] ds ∧ Binds K fd ["cell", "count", "low", "high"] ds := ⟨[], .nil, FunD.bindsN (ps := ["cell", "count", "low", "high"]) F fun _ _ _ _ _ _ us hl => match us, hl with | [_, _, _, _], _ => rfl⟩
  exact ⟨_, fd, 1, ["cell", "count", "low", "high"], [], ds, fo__law_values c Gm X F, hL, He.glo_ok X Gm (c.fact 24 (f := .fa (.glo "_law_values")) rfl), F.kp, hb, rfl, hv, runF_len⟩
theorem ok_check_size {P : Program} {w : World} {K : PySem.W.Frag} {mg : Str → Option Value} {base : Heap} (c : SaysM fb fn K) (Gm : base.Ns mainGlobals mg) (X : K.In base) {N : List Str} {sc : Scope} {L : Nat} (hL : 0 ≤ L) : OkSs (czOf P w K mg base N sc L (gx K)) c_check_size := ⟨⟨⟨⟨trivial, trivial, trivial⟩, ⟨⟨⟨trivial, ⟨trivial, trivial⟩⟩, trivial⟩, trivial⟩⟩, ⟨⟨gx_OutOfRange c Gm X, rc_OutOfRange c⟩, trivial⟩, trivial⟩, trivial⟩
theorem fo_check_size {P : Program} {w : World} {K : PySem.W.Frag} {mg : Str → Option Value} {base : Heap} (c : SaysM fb fn K) (Gm : base.Ns mainGlobals mg) (X : K.In base) {fd : FuncData} (F : FunD K d_check_size.name d_check_size.qual d_check_size.params d_check_size.body d_check_size.scope (d_check_size.dvs K) (d_check_size.kws K) (He.fAd K d_check_size.at_) fd) : FnOk P w K mg base (L2.CX P w) 1 (He.fAd K d_check_size.at_) fd ["size"] (spOf K (gx K) false 1 r_check_size) := fn_sound F s_check_size k_check_size (ok_check_size c Gm X (Nat.le_refl _))
theorem co_check_size {P : Program} {w : World} {K : PySem.W.Frag} {mg : Str → Option Value} {base : Heap} (c : SaysM fb fn K) (Gm : base.Ns mainGlobals mg) (X : K.In base) {N : List Str} {sc : Scope} {L : Nat} (hL : 1 ≤ L) : CallOk (czOf P w K mg base N sc L (gx K)) "check_size" r_check_size false [] := by
  obtain ⟨fd, F⟩ := c.def_ 2 (d := d_check_size) rfl
  obtain ⟨ds, hv, hb⟩ : ∃ ds, Vals [] ds ∧ Binds K fd ["size"] ds := ⟨[], .nil, FunD.bindsN (ps := ["size"]) F fun _ _ _ _ _ _ us hl => match us, hl with | [_], _ => rfl⟩
  exact ⟨_, fd, 1, ["size"], [], ds, fo_check_size c Gm X F, hL, He.glo_ok X Gm (c.fact 25 (f := .fa (.glo "check_size")) rfl), F.kp, hb, rfl, hv, runF_len⟩
theorem ok_check_slots {P : Program} {w : World} {K : PySem.W.Frag} {mg : Str → Option Value} {base : Heap} (c : SaysM fb fn K) (Gm : base.Ns mainGlobals mg) (X : K.In base) {N : List Str} {sc : Scope} {L : Nat} (hL : 1 ≤ L) : OkSs (czOf P w K mg base N sc L (gx K)) c_check_slots := ⟨⟨co_check_size c Gm X (Nat.le_trans (by decide) hL), ⟨trivial, trivial⟩⟩, ⟨⟨⟨⟨trivial, trivial⟩, ⟨⟨⟨trivial, ⟨trivial, trivial⟩⟩, trivial⟩, ⟨⟨⟨trivial, trivial⟩, trivial⟩, trivial⟩⟩⟩, ⟨⟨gx_OutOfRange c Gm X, rc_OutOfRange c⟩, trivial⟩, trivial⟩, trivial⟩⟩
theorem fo_check_slots {P : Program} {w : World} {K : PySem.W.Frag} {mg : Str → Option Value} {base : Heap} (c : SaysM fb fn K) (Gm : base.Ns mainGlobals mg) (X : K.In base) {fd : FuncData} (F : FunD K d_check_slots.name d_check_slots.qual d_check_slots.params d_check_slots.body d_check_slots.scope (d_check_slots.dvs K) (d_check_slots.kws K) (He.fAd K d_check_slots.at_) fd) : FnOk P w K mg base (L2.CX P w) 2 (He.fAd K d_check_slots.at_) fd ["degree", "slots"] (spOf K (gx K) false 2 r_check_slots) := fn_sound F s_check_slots k_check_slots (ok_check_slots c Gm X (Nat.le_refl _))
theorem co_check_slots {P : Program} {w : World} {K : PySem.W.Frag} {mg : Str → Option Value} {base : Heap} (c : SaysM fb fn K) (Gm : base.Ns mainGlobals mg) (X : K.In base) {N : List Str} {sc : Scope} {L : Nat} (hL : 2 ≤ L) : CallOk (czOf P w K mg base N sc L (gx K)) "check_slots" r_check_slots false [] := by
  obtain ⟨fd, F⟩ := c.def_ 3 (d := d_check_slots) rfl
  obtain ⟨ds, hv, hb⟩ : ∃ ds, Vals [] ds ∧ Binds K fd ["degree", "slots"] ds := ⟨[], .nil, FunD.bindsN (ps := ["degree", "slots"]) F fun _ _ _ _ _ _ us hl => match us, hl with | [_, _], _ => rfl⟩
  exact ⟨_, fd, 2, ["degree", "slots"], [], ds, fo_check_slots c Gm X F, hL, He.glo_ok X Gm (c.fact 26 (f := .fa (.glo "check_slots")) rfl), F.kp, hb, rfl, hv, runF_len⟩
theorem ok_table_poly {P : Program} {w : World} {K : PySem.W.Frag} {mg : Str → Option Value} {base : Heap} (c : SaysM fb fn K) (Gm : base.Ns mainGlobals mg) (X : K.In base) {N : List Str} {sc : Scope} {L : Nat} (hL : 2 ≤ L) : OkSs (czOf P w K mg base N sc L (gx K)) c_table_poly := ⟨⟨co_check_slots c Gm X (Nat.le_trans (by decide) hL), ⟨trivial, ⟨⟨fr_len c Gm X, ⟨trivial, trivial⟩⟩, trivial⟩⟩⟩, ⟨⟨trivial, ⟨trivial, ⟨fr_len c Gm X, ⟨trivial, trivial⟩⟩⟩⟩, ⟨⟨⟨fr_list c Gm X, ⟨trivial, trivial⟩⟩, ⟨⟨trivial, trivial⟩, trivial⟩⟩, ⟨⟨⟨trivial, ⟨⟨trivial, trivial⟩, ⟨trivial, trivial⟩⟩⟩, trivial, ⟨fr_range c Gm X, trivial⟩⟩, trivial⟩⟩⟩⟩
theorem fo_table_poly {P : Program} {w : World} {K : PySem.W.Frag} {mg : Str → Option Value} {base : Heap} (c : SaysM fb fn K) (Gm : base.Ns mainGlobals mg) (X : K.In base) {fd : FuncData} (F : FunD K d_table_poly.name d_table_poly.qual d_table_poly.params d_table_poly.body d_table_poly.scope (d_table_poly.dvs K) (d_table_poly.kws K) (He.fAd K d_table_poly.at_) fd) : FnOk P w K mg base (L2.CX P w) 3 (He.fAd K d_table_poly.at_) fd ["degree", "table"] (spOf K (gx K) false 2 r_table_poly) := fn_sound F s_table_poly k_table_poly (ok_table_poly c Gm X (Nat.le_refl _))
theorem co_table_poly {P : Program} {w : World} {K : PySem.W.Frag} {mg : Str → Option Value} {base : Heap} (c : SaysM fb fn K) (Gm : base.Ns mainGlobals mg) (X : K.In base) {N : List Str} {sc : Scope} {L : Nat} (hL : 3 ≤ L) : CallOk (czOf P w K mg base N sc L (gx K)) "table_poly" r_table_poly false [] := by
  obtain ⟨fd, F⟩ := c.def_ 4 (d := d_table_poly) rfl
  obtain ⟨ds, hv, hb⟩ : ∃ ds, Vals [] ds ∧ Binds K fd ["degree", "table"] ds := ⟨[], .nil, FunD.bindsN (ps := ["degree", "table"]) F fun _ _ _ _ _ _ us hl => match us, hl with | [_, _], _ => rfl⟩
  exact ⟨_, fd, 3, ["degree", "table"], [], ds, fo_table_poly c Gm X F, hL, He.glo_ok X Gm (c.fact 27 (f := .fa (.glo "table_poly")) rfl), F.kp, hb, rfl, hv, runF_len⟩
theorem ok_check_modulus_slots {P : Program} {w : World} {K : PySem.W.Frag} {mg : Str → Option Value} {base : Heap} (c : SaysM fb fn K) (Gm : base.Ns mainGlobals mg) (X : K.In base) {N : List Str} {sc : Scope} {L : Nat} (hL : 0 ≤ L) : OkSs (czOf P w K mg base N sc L (gx K)) c_check_modulus_slots := ⟨⟨⟨⟨trivial, trivial⟩, ⟨⟨⟨trivial, ⟨trivial, trivial⟩⟩, trivial⟩, ⟨⟨⟨trivial, ⟨trivial, trivial⟩⟩, trivial⟩, trivial⟩⟩⟩, ⟨⟨gx_OutOfRange c Gm X, rc_OutOfRange c⟩, trivial⟩, trivial⟩, trivial⟩
theorem fo_check_modulus_slots {P : Program} {w : World} {K : PySem.W.Frag} {mg : Str → Option Value} {base : Heap} (c : SaysM fb fn K) (Gm : base.Ns mainGlobals mg) (X : K.In base) {fd : FuncData} (F : FunD K d_check_modulus_slots.name d_check_modulus_slots.qual d_check_modulus_slots.params d_check_modulus_slots.body d_check_modulus_slots.scope (d_check_modulus_slots.dvs K) (d_check_modulus_slots.kws K) (He.fAd K d_check_modulus_slots.at_) fd) : FnOk P w K mg base (L2.CX P w) 1 (He.fAd K d_check_modulus_slots.at_) fd ["modulus", "slots"] (spOf K (gx K) false 2 r_check_modulus_slots) := fn_sound F s_check_modulus_slots k_check_modulus_slots (ok_check_modulus_slots c Gm X (Nat.le_refl _))
theorem co_check_modulus_slots {P : Program} {w : World} {K : PySem.W.Frag} {mg : Str → Option Value} {base : Heap} (c : SaysM fb fn K) (Gm : base.Ns mainGlobals mg) (X : K.In base) {N : List Str} {sc : Scope} {L : Nat} (hL : 1 ≤ L) : CallOk (czOf P w K mg base N sc L (gx K)) "check_modulus_slots" r_check_modulus_slots false [] := by
  obtain ⟨fd, F⟩ := c.def_ 5 (d := d_check_modulus_slots) rfl
  obtain ⟨ds, hv, hb⟩ : ∃ ds, Vals [] ds ∧ Binds K fd ["modulus", "slots"] ds := ⟨[], .nil, FunD.bindsN (ps := ["modulus", "slots"]) F fun _ _ _ _ _ _ us hl => match us, hl with | [_, _], _ => rfl⟩
  exact ⟨_, fd, 1, ["modulus", "slots"], [], ds, fo_check_modulus_slots c Gm X F, hL, He.glo_ok X Gm (c.fact 28 (f := .fa (.glo "check_modulus_slots")) rfl), F.kp, hb, rfl, hv, runF_len⟩
theorem ok_check_modulus {P : Program} {w : World} {K : PySem.W.Frag} {mg : Str → Option Value} {base : Heap} (c : SaysM fb fn K) (Gm : base.Ns mainGlobals mg) (X : K.In base) {N : List Str} {sc : Scope} {L : Nat} (hL : 0 ≤ L) : OkSs (czOf P w K mg base N sc L (gx K)) c_check_modulus := ⟨⟨⟨trivial, trivial⟩, ⟨⟨gx_OutOfRange c Gm X, rc_OutOfRange c⟩, trivial⟩, trivial⟩, trivial⟩
theorem fo_check_modulus {P : Program} {w : World} {K : PySem.W.Frag} {mg : Str → Option Value} {base : Heap} (c : SaysM fb fn K) (Gm : base.Ns mainGlobals mg) (X : K.In base) {fd : FuncData} (F : FunD K d_check_modulus.name d_check_modulus.qual d_check_modulus.params d_check_modulus.body d_check_modulus.scope (d_check_modulus.dvs K) (d_check_modulus.kws K) (He.fAd K d_check_modulus.at_) fd) : FnOk P w K mg base (L2.CX P w) 1 (He.fAd K d_check_modulus.at_) fd ["k"] (spOf K (gx K) false 1 r_check_modulus) := fn_sound F s_check_modulus k_check_modulus (ok_check_modulus c Gm X (Nat.le_refl _))
theorem co_check_modulus {P : Program} {w : World} {K : PySem.W.Frag} {mg : Str → Option Value} {base : Heap} (c : SaysM fb fn K) (Gm : base.Ns mainGlobals mg) (X : K.In base) {N : List Str} {sc : Scope} {L : Nat} (hL : 1 ≤ L) : CallOk (czOf P w K mg base N sc L (gx K)) "check_modulus" r_check_modulus false [] := by
  obtain ⟨fd, F⟩ := c.def_ 6 (d := d_check_modulus) rfl
  obtain ⟨ds, hv, hb⟩ : ∃ ds, Vals [] ds ∧ Binds K fd ["k"] ds := ⟨[], .nil, FunD.bindsN (ps := ["k"]) F fun _ _ _ _ _ _ us hl => match us, hl with | [_], _ => rfl⟩
  exact ⟨_, fd, 1, ["k"], [], ds, fo_check_modulus c Gm X F, hL, He.glo_ok X Gm (c.fact 29 (f := .fa (.glo "check_modulus")) rfl), F.kp, hb, rfl, hv, runF_len⟩
theorem ok_centred {P : Program} {w : World} {K : PySem.W.Frag} {mg : Str → Option Value} {base : Heap} (c : SaysM fb fn K) (Gm : base.Ns mainGlobals mg) (X : K.In base) {N : List Str} {sc : Scope} {L : Nat} (hL : 1 ≤ L) : OkSs (czOf P w K mg base N sc L (gx K)) c_centred := ⟨⟨co_check_modulus c Gm X (Nat.le_trans (by decide) hL), ⟨trivial, trivial⟩⟩, ⟨⟨⟨trivial, trivial⟩, ⟨⟨⟨trivial, trivial⟩, trivial⟩, trivial⟩⟩, trivial⟩⟩
theorem fo_centred {P : Program} {w : World} {K : PySem.W.Frag} {mg : Str → Option Value} {base : Heap} (c : SaysM fb fn K) (Gm : base.Ns mainGlobals mg) (X : K.In base) {fd : FuncData} (F : FunD K d_centred.name d_centred.qual d_centred.params d_centred.body d_centred.scope (d_centred.dvs K) (d_centred.kws K) (He.fAd K d_centred.at_) fd) : FnOk P w K mg base (L2.CX P w) 2 (He.fAd K d_centred.at_) fd ["a", "k"] (spOf K (gx K) false 2 r_centred) := fn_sound F s_centred k_centred (ok_centred c Gm X (Nat.le_refl _))
theorem co_centred {P : Program} {w : World} {K : PySem.W.Frag} {mg : Str → Option Value} {base : Heap} (c : SaysM fb fn K) (Gm : base.Ns mainGlobals mg) (X : K.In base) {N : List Str} {sc : Scope} {L : Nat} (hL : 2 ≤ L) : CallOk (czOf P w K mg base N sc L (gx K)) "centred" r_centred false [] := by
  obtain ⟨fd, F⟩ := c.def_ 7 (d := d_centred) rfl
  obtain ⟨ds, hv, hb⟩ : ∃ ds, Vals [] ds ∧ Binds K fd ["a", "k"] ds := ⟨[], .nil, FunD.bindsN (ps := ["a", "k"]) F fun _ _ _ _ _ _ us hl => match us, hl with | [_, _], _ => rfl⟩
  exact ⟨_, fd, 2, ["a", "k"], [], ds, fo_centred c Gm X F, hL, He.glo_ok X Gm (c.fact 30 (f := .fa (.glo "centred")) rfl), F.kp, hb, rfl, hv, runF_len⟩
theorem ok_slot_message {P : Program} {w : World} {K : PySem.W.Frag} {mg : Str → Option Value} {base : Heap} (c : SaysM fb fn K) (Gm : base.Ns mainGlobals mg) (X : K.In base) {N : List Str} {sc : Scope} {L : Nat} (hL : 2 ≤ L) : OkSs (czOf P w K mg base N sc L (gx K)) c_slot_message := ⟨⟨co_check_modulus_slots c Gm X (Nat.le_trans (by decide) hL), ⟨trivial, ⟨trivial, trivial⟩⟩⟩, ⟨⟨co_centred c Gm X (Nat.le_trans (by decide) hL), ⟨⟨trivial, ⟨trivial, ⟨trivial, trivial⟩⟩⟩, ⟨trivial, trivial⟩⟩⟩, trivial⟩⟩
theorem fo_slot_message {P : Program} {w : World} {K : PySem.W.Frag} {mg : Str → Option Value} {base : Heap} (c : SaysM fb fn K) (Gm : base.Ns mainGlobals mg) (X : K.In base) {fd : FuncData} (F : FunD K d_slot_message.name d_slot_message.qual d_slot_message.params d_slot_message.body d_slot_message.scope (d_slot_message.dvs K) (d_slot_message.kws K) (He.fAd K d_slot_message.at_) fd) : FnOk P w K mg base (L2.CX P w) 3 (He.fAd K d_slot_message.at_) fd ["modulus", "slots", "index"] (spOf K (gx K) false 3 r_slot_message) := fn_sound F s_slot_message k_slot_message (ok_slot_message c Gm X (Nat.le_refl _))
theorem co_slot_message {P : Program} {w : World} {K : PySem.W.Frag} {mg : Str → Option Value} {base : Heap} (c : SaysM fb fn K) (Gm : base.Ns mainGlobals mg) (X : K.In base) {N : List Str} {sc : Scope} {L : Nat} (hL : 3 ≤ L) : CallOk (czOf P w K mg base N sc L (gx K)) "slot_message" r_slot_message false [] := by
  obtain ⟨fd, F⟩ := c.def_ 8 (d := d_slot_message) rfl
  obtain ⟨ds, hv, hb⟩ : ∃ ds, Vals [] ds ∧ Binds K fd ["modulus", "slots", "index"] ds := ⟨[], .nil, FunD.bindsN (ps := ["modulus", "slots", "index"]) F fun _ _ _ _ _ _ us hl => match us, hl with | [_, _, _], _ => rfl⟩
  exact ⟨_, fd, 3, ["modulus", "slots", "index"], [], ds, fo_slot_message c Gm X F, hL, He.glo_ok X Gm (c.fact 31 (f := .fa (.glo "slot_message")) rfl), F.kp, hb, rfl, hv, runF_len⟩
theorem ok_slot_of {P : Program} {w : World} {K : PySem.W.Frag} {mg : Str → Option Value} {base : Heap} (c : SaysM fb fn K) (Gm : base.Ns mainGlobals mg) (X : K.In base) {N : List Str} {sc : Scope} {L : Nat} (hL : 2 ≤ L) : OkSs (czOf P w K mg base N sc L (gx K)) c_slot_of := ⟨⟨co_check_slots c Gm X (Nat.le_trans (by decide) hL), ⟨trivial, ⟨trivial, trivial⟩⟩⟩, ⟨⟨trivial, ⟨trivial, trivial⟩⟩, ⟨⟨⟨⟨trivial, trivial⟩, ⟨trivial, trivial⟩⟩, ⟨trivial, trivial⟩⟩, trivial⟩⟩⟩
theorem fo_slot_of {P : Program} {w : World} {K : PySem.W.Frag} {mg : Str → Option Value} {base : Heap} (c : SaysM fb fn K) (Gm : base.Ns mainGlobals mg) (X : K.In base) {fd : FuncData} (F : FunD K d_slot_of.name d_slot_of.qual d_slot_of.params d_slot_of.body d_slot_of.scope (d_slot_of.dvs K) (d_slot_of.kws K) (He.fAd K d_slot_of.at_) fd) : FnOk P w K mg base (L2.CX P w) 3 (He.fAd K d_slot_of.at_) fd ["degree", "slots", "place"] (spOf K (gx K) false 3 r_slot_of) := fn_sound F s_slot_of k_slot_of (ok_slot_of c Gm X (Nat.le_refl _))
theorem co_slot_of {P : Program} {w : World} {K : PySem.W.Frag} {mg : Str → Option Value} {base : Heap} (c : SaysM fb fn K) (Gm : base.Ns mainGlobals mg) (X : K.In base) {N : List Str} {sc : Scope} {L : Nat} (hL : 3 ≤ L) : CallOk (czOf P w K mg base N sc L (gx K)) "slot_of" r_slot_of false [] := by
  obtain ⟨fd, F⟩ := c.def_ 9 (d := d_slot_of) rfl
  obtain ⟨ds, hv, hb⟩ : ∃ ds, Vals [] ds ∧ Binds K fd ["degree", "slots", "place"] ds := ⟨[], .nil, FunD.bindsN (ps := ["degree", "slots", "place"]) F fun _ _ _ _ _ _ us hl => match us, hl with | [_, _, _], _ => rfl⟩
  exact ⟨_, fd, 3, ["degree", "slots", "place"], [], ds, fo_slot_of c Gm X F, hL, He.glo_ok X Gm (c.fact 32 (f := .fa (.glo "slot_of")) rfl), F.kp, hb, rfl, hv, runF_len⟩
theorem ok__law_refuses {P : Program} {w : World} {K : PySem.W.Frag} {mg : Str → Option Value} {base : Heap} (c : SaysM fb fn K) (Gm : base.Ns mainGlobals mg) (X : K.In base) {N : List Str} {sc : Scope} {L : Nat} (hL : 3 ≤ L) : OkSs (czOf P w K mg base N sc L (gx K)) c__law_refuses := ⟨⟨⟨_, gx_OutOfRange c Gm X, ex_OutOfRange c⟩, ⟨⟨⟨trivial, trivial⟩, ⟨⟨co_slot_message c Gm X (Nat.le_trans (by decide) hL), ⟨trivial, ⟨trivial, ⟨trivial, trivial⟩⟩⟩⟩, trivial⟩, ⟨⟨⟨trivial, trivial⟩, ⟨⟨co_slot_of c Gm X (Nat.le_trans (by decide) hL), ⟨trivial, ⟨trivial, ⟨trivial, trivial⟩⟩⟩⟩, trivial⟩, ⟨⟨co_table_poly c Gm X (Nat.le_trans (by decide) hL), ⟨trivial, ⟨⟨⟨trivial, trivial⟩, trivial⟩, trivial⟩⟩⟩, trivial⟩⟩, trivial⟩⟩, trivial⟩, ⟨⟨⟨fr_isinstance c Gm X, _, gx_PurseError c Gm X, kx_PurseError c⟩, ⟨⟨fr_isinstance c Gm X, _, gx_Malformed c Gm X, kx_Malformed c⟩, trivial⟩⟩, trivial⟩⟩, ⟨trivial, trivial⟩⟩
theorem fo__law_refuses {P : Program} {w : World} {K : PySem.W.Frag} {mg : Str → Option Value} {base : Heap} (c : SaysM fb fn K) (Gm : base.Ns mainGlobals mg) (X : K.In base) {fd : FuncData} (F : FunD K d__law_refuses.name d__law_refuses.qual d__law_refuses.params d__law_refuses.body d__law_refuses.scope (d__law_refuses.dvs K) (d__law_refuses.kws K) (He.fAd K d__law_refuses.at_) fd) : FnOk P w K mg base (L2.CX P w) 4 (He.fAd K d__law_refuses.at_) fd ["which", "modulus", "degree", "slots"] (spOf K (gx K) false 4 r__law_refuses) := fn_sound F s__law_refuses k__law_refuses (ok__law_refuses c Gm X (Nat.le_refl _))
theorem co__law_refuses {P : Program} {w : World} {K : PySem.W.Frag} {mg : Str → Option Value} {base : Heap} (c : SaysM fb fn K) (Gm : base.Ns mainGlobals mg) (X : K.In base) {N : List Str} {sc : Scope} {L : Nat} (hL : 4 ≤ L) : CallOk (czOf P w K mg base N sc L (gx K)) "_law_refuses" r__law_refuses false [] := by
  obtain ⟨fd, F⟩ := c.def_ 10 (d := d__law_refuses) rfl
  obtain ⟨ds, hv, hb⟩ : ∃ ds, Vals [] ds ∧ Binds K fd ["which", "modulus", "degree", "slots"] ds := ⟨[], .nil, FunD.bindsN (ps := ["which", "modulus", "degree", "slots"]) F fun _ _ _ _ _ _ us hl => match us, hl with | [_, _, _, _], _ => rfl⟩
  exact ⟨_, fd, 4, ["which", "modulus", "degree", "slots"], [], ds, fo__law_refuses c Gm X F, hL, He.glo_ok X Gm (c.fact 33 (f := .fa (.glo "_law_refuses")) rfl), F.kp, hb, rfl, hv, runF_len⟩
theorem ok__law_cell {P : Program} {w : World} {K : PySem.W.Frag} {mg : Str → Option Value} {base : Heap} (c : SaysM fb fn K) (Gm : base.Ns mainGlobals mg) (X : K.In base) {N : List Str} {sc : Scope} {L : Nat} (hL : 0 ≤ L) : OkSs (czOf P w K mg base N sc L (gx K)) c__law_cell := ⟨⟨⟨trivial, ⟨fr_len c Gm X, ⟨trivial, trivial⟩⟩⟩, ⟨⟨fr_int c Gm X, ⟨⟨trivial, trivial⟩, trivial⟩⟩, trivial⟩, trivial⟩, ⟨trivial, trivial⟩⟩
theorem fo__law_cell {P : Program} {w : World} {K : PySem.W.Frag} {mg : Str → Option Value} {base : Heap} (c : SaysM fb fn K) (Gm : base.Ns mainGlobals mg) (X : K.In base) {fd : FuncData} (F : FunD K d__law_cell.name d__law_cell.qual d__law_cell.params d__law_cell.body d__law_cell.scope (d__law_cell.dvs K) (d__law_cell.kws K) (He.fAd K d__law_cell.at_) fd) : FnOk P w K mg base (L2.CX P w) 1 (He.fAd K d__law_cell.at_) fd ["script", "k"] (spOf K (gx K) false 2 r__law_cell) := fn_sound F s__law_cell k__law_cell (ok__law_cell c Gm X (Nat.le_refl _))
theorem co__law_cell {P : Program} {w : World} {K : PySem.W.Frag} {mg : Str → Option Value} {base : Heap} (c : SaysM fb fn K) (Gm : base.Ns mainGlobals mg) (X : K.In base) {N : List Str} {sc : Scope} {L : Nat} (hL : 1 ≤ L) : CallOk (czOf P w K mg base N sc L (gx K)) "_law_cell" r__law_cell false [] := by
  obtain ⟨fd, F⟩ := c.def_ 11 (d := d__law_cell) rfl
  obtain ⟨ds, hv, hb⟩ : ∃ ds, Vals [] ds ∧ Binds K fd ["script", "k"] ds := ⟨[], .nil, FunD.bindsN (ps := ["script", "k"]) F fun _ _ _ _ _ _ us hl => match us, hl with | [_, _], _ => rfl⟩
  exact ⟨_, fd, 1, ["script", "k"], [], ds, fo__law_cell c Gm X F, hL, He.glo_ok X Gm (c.fact 34 (f := .fa (.glo "_law_cell")) rfl), F.kp, hb, rfl, hv, runF_len⟩
theorem ok__law_is_integer {P : Program} {w : World} {K : PySem.W.Frag} {mg : Str → Option Value} {base : Heap} (c : SaysM fb fn K) (Gm : base.Ns mainGlobals mg) (X : K.In base) {N : List Str} {sc : Scope} {L : Nat} (hL : 0 ≤ L) : OkSs (czOf P w K mg base N sc L (gx K)) c__law_is_integer := ⟨⟨⟨⟨fr_isinstance c Gm X, fr_int c Gm X, boot_int, by decide, by decide⟩, trivial⟩, ⟨⟨⟨fr_isinstance c Gm X, fr_bool c Gm X, boot_bool, by decide, by decide⟩, trivial⟩, trivial⟩⟩, trivial⟩
theorem fo__law_is_integer {P : Program} {w : World} {K : PySem.W.Frag} {mg : Str → Option Value} {base : Heap} (c : SaysM fb fn K) (Gm : base.Ns mainGlobals mg) (X : K.In base) {fd : FuncData} (F : FunD K d__law_is_integer.name d__law_is_integer.qual d__law_is_integer.params d__law_is_integer.body d__law_is_integer.scope (d__law_is_integer.dvs K) (d__law_is_integer.kws K) (He.fAd K d__law_is_integer.at_) fd) : FnOk P w K mg base (L2.CX P w) 1 (He.fAd K d__law_is_integer.at_) fd ["actual"] (spOf K (gx K) false 1 r__law_is_integer) := fn_sound F s__law_is_integer k__law_is_integer (ok__law_is_integer c Gm X (Nat.le_refl _))
theorem co__law_is_integer {P : Program} {w : World} {K : PySem.W.Frag} {mg : Str → Option Value} {base : Heap} (c : SaysM fb fn K) (Gm : base.Ns mainGlobals mg) (X : K.In base) {N : List Str} {sc : Scope} {L : Nat} (hL : 1 ≤ L) : CallOk (czOf P w K mg base N sc L (gx K)) "_law_is_integer" r__law_is_integer false [] := by
  obtain ⟨fd, F⟩ := c.def_ 12 (d := d__law_is_integer) rfl
  obtain ⟨ds, hv, hb⟩ : ∃ ds, Vals [] ds ∧ Binds K fd ["actual"] ds := ⟨[], .nil, FunD.bindsN (ps := ["actual"]) F fun _ _ _ _ _ _ us hl => match us, hl with | [_], _ => rfl⟩
  exact ⟨_, fd, 1, ["actual"], [], ds, fo__law_is_integer c Gm X F, hL, He.glo_ok X Gm (c.fact 35 (f := .fa (.glo "_law_is_integer")) rfl), F.kp, hb, rfl, hv, runF_len⟩
theorem ok__law_centred {P : Program} {w : World} {K : PySem.W.Frag} {mg : Str → Option Value} {base : Heap} (c : SaysM fb fn K) (Gm : base.Ns mainGlobals mg) (X : K.In base) {N : List Str} {sc : Scope} {L : Nat} (hL : 0 ≤ L) : OkSs (czOf P w K mg base N sc L (gx K)) c__law_centred := ⟨⟨⟨fr_int c Gm X, ⟨trivial, trivial⟩⟩, trivial⟩, ⟨⟨⟨⟨trivial, trivial⟩, trivial⟩, ⟨⟨trivial, trivial⟩, trivial⟩, trivial⟩, ⟨trivial, trivial⟩⟩⟩
theorem fo__law_centred {P : Program} {w : World} {K : PySem.W.Frag} {mg : Str → Option Value} {base : Heap} (c : SaysM fb fn K) (Gm : base.Ns mainGlobals mg) (X : K.In base) {fd : FuncData} (F : FunD K d__law_centred.name d__law_centred.qual d__law_centred.params d__law_centred.body d__law_centred.scope (d__law_centred.dvs K) (d__law_centred.kws K) (He.fAd K d__law_centred.at_) fd) : FnOk P w K mg base (L2.CX P w) 1 (He.fAd K d__law_centred.at_) fd ["value", "modulus"] (spOf K (gx K) false 2 r__law_centred) := fn_sound F s__law_centred k__law_centred (ok__law_centred c Gm X (Nat.le_refl _))
theorem co__law_centred {P : Program} {w : World} {K : PySem.W.Frag} {mg : Str → Option Value} {base : Heap} (c : SaysM fb fn K) (Gm : base.Ns mainGlobals mg) (X : K.In base) {N : List Str} {sc : Scope} {L : Nat} (hL : 1 ≤ L) : CallOk (czOf P w K mg base N sc L (gx K)) "_law_centred" r__law_centred false [] := by
  obtain ⟨fd, F⟩ := c.def_ 13 (d := d__law_centred) rfl
  obtain ⟨ds, hv, hb⟩ : ∃ ds, Vals [] ds ∧ Binds K fd ["value", "modulus"] ds := ⟨[], .nil, FunD.bindsN (ps := ["value", "modulus"]) F fun _ _ _ _ _ _ us hl => match us, hl with | [_, _], _ => rfl⟩
  exact ⟨_, fd, 1, ["value", "modulus"], [], ds, fo__law_centred c Gm X F, hL, He.glo_ok X Gm (c.fact 36 (f := .fa (.glo "_law_centred")) rfl), F.kp, hb, rfl, hv, runF_len⟩
theorem ob_b__law_window_0 {P : Program} {w : World} {K : PySem.W.Frag} {mg : Str → Option Value} {base : Heap} (c : SaysM fb fn K) (Gm : base.Ns mainGlobals mg) (X : K.In base) {N : List Str} {sc : Scope} {L : Nat} (hL : 1 ≤ L) : OkSs (czOf P w K mg base N sc L (gx K)) b__law_window_0 := ⟨⟨⟨⟨trivial, trivial⟩, ⟨co__law_centred c Gm X (Nat.le_trans (by decide) hL), ⟨⟨trivial, ⟨⟨trivial, trivial⟩, trivial⟩⟩, ⟨⟨trivial, trivial⟩, trivial⟩⟩⟩, trivial⟩, ⟨trivial, trivial⟩, trivial⟩, trivial⟩
theorem ok__law_window {P : Program} {w : World} {K : PySem.W.Frag} {mg : Str → Option Value} {base : Heap} (c : SaysM fb fn K) (Gm : base.Ns mainGlobals mg) (X : K.In base) {N : List Str} {sc : Scope} {L : Nat} (hL : 1 ≤ L) : OkSs (czOf P w K mg base N sc L (gx K)) c__law_window := ⟨⟨trivial, ⟨trivial, trivial⟩⟩, ⟨trivial, ⟨⟨⟨fr_range c Gm X, ⟨trivial, trivial⟩⟩, ob_b__law_window_0 c Gm X hL⟩, ⟨trivial, ⟨trivial, trivial⟩⟩⟩⟩⟩
theorem fo__law_window {P : Program} {w : World} {K : PySem.W.Frag} {mg : Str → Option Value} {base : Heap} (c : SaysM fb fn K) (Gm : base.Ns mainGlobals mg) (X : K.In base) {fd : FuncData} (F : FunD K d__law_window.name d__law_window.qual d__law_window.params d__law_window.body d__law_window.scope (d__law_window.dvs K) (d__law_window.kws K) (He.fAd K d__law_window.at_) fd) : FnOk P w K mg base (L2.CX P w) 2 (He.fAd K d__law_window.at_) fd ["degree", "slots", "place"] (spOf K (gx K) false 3 r__law_window) := fn_sound F s__law_window k__law_window (ok__law_window c Gm X (Nat.le_refl _))
theorem co__law_window {P : Program} {w : World} {K : PySem.W.Frag} {mg : Str → Option Value} {base : Heap} (c : SaysM fb fn K) (Gm : base.Ns mainGlobals mg) (X : K.In base) {N : List Str} {sc : Scope} {L : Nat} (hL : 2 ≤ L) : CallOk (czOf P w K mg base N sc L (gx K)) "_law_window" r__law_window false [] := by
  obtain ⟨fd, F⟩ := c.def_ 14 (d := d__law_window) rfl
  obtain ⟨ds, hv, hb⟩ : ∃ ds, Vals [] ds ∧ Binds K fd ["degree", "slots", "place"] ds := ⟨[], .nil, FunD.bindsN (ps := ["degree", "slots", "place"]) F fun _ _ _ _ _ _ us hl => match us, hl with | [_, _, _], _ => rfl⟩
  exact ⟨_, fd, 2, ["degree", "slots", "place"], [], ds, fo__law_window c Gm X F, hL, He.glo_ok X Gm (c.fact 37 (f := .fa (.glo "_law_window")) rfl), F.kp, hb, rfl, hv, runF_len⟩
theorem ob_b_law_0 {P : Program} {w : World} {K : PySem.W.Frag} {mg : Str → Option Value} {base : Heap} (c : SaysM fb fn K) (Gm : base.Ns mainGlobals mg) (X : K.In base) {N : List Str} {sc : Scope} {L : Nat} (hL : 4 ≤ L) : OkSs (czOf P w K mg base N sc L (gx K)) b_law_0 := ⟨⟨⟨⟨trivial, trivial⟩, trivial⟩, ⟨⟨trivial, trivial⟩, trivial⟩, trivial⟩, trivial⟩
theorem ob_b_law_1 {P : Program} {w : World} {K : PySem.W.Frag} {mg : Str → Option Value} {base : Heap} (c : SaysM fb fn K) (Gm : base.Ns mainGlobals mg) (X : K.In base) {N : List Str} {sc : Scope} {L : Nat} (hL : 4 ≤ L) : OkSs (czOf P w K mg base N sc L (gx K)) b_law_1 := ⟨⟨⟨co__law_is_integer c Gm X (Nat.le_trans (by decide) hL), ⟨trivial, trivial⟩⟩, ⟨trivial, trivial⟩, trivial⟩, trivial⟩
theorem ob_b_law_2 {P : Program} {w : World} {K : PySem.W.Frag} {mg : Str → Option Value} {base : Heap} (c : SaysM fb fn K) (Gm : base.Ns mainGlobals mg) (X : K.In base) {N : List Str} {sc : Scope} {L : Nat} (hL : 4 ≤ L) : OkSs (czOf P w K mg base N sc L (gx K)) b_law_2 := ⟨⟨co_slot_of c Gm X (Nat.le_trans (by decide) hL), ⟨trivial, ⟨trivial, ⟨trivial, trivial⟩⟩⟩⟩, ⟨⟨⟨⟨co__law_is_integer c Gm X (Nat.le_trans (by decide) hL), ⟨trivial, trivial⟩⟩, ⟨⟨⟨trivial, trivial⟩, ⟨co__law_window c Gm X (Nat.le_trans (by decide) hL), ⟨trivial, ⟨trivial, ⟨trivial, trivial⟩⟩⟩⟩⟩, trivial⟩⟩, ⟨trivial, trivial⟩, trivial⟩, ⟨⟨⟨fr_int c Gm X, ⟨trivial, trivial⟩⟩, ⟨trivial, trivial⟩⟩, ⟨⟨trivial, ⟨⟨fr_int c Gm X, ⟨trivial, trivial⟩⟩, trivial⟩⟩, ⟨⟨⟨trivial, trivial⟩, ⟨⟨trivial, trivial⟩, trivial⟩, trivial⟩, ⟨⟨trivial, ⟨⟨fr_int c Gm X, ⟨trivial, trivial⟩⟩, trivial⟩⟩, ⟨⟨⟨trivial, trivial⟩, ⟨⟨trivial, trivial⟩, trivial⟩, trivial⟩, ⟨⟨⟨trivial, trivial⟩, ⟨trivial, trivial⟩, trivial⟩, trivial⟩⟩⟩⟩⟩⟩⟩⟩
theorem ob_b_law_3 {P : Program} {w : World} {K : PySem.W.Frag} {mg : Str → Option Value} {base : Heap} (c : SaysM fb fn K) (Gm : base.Ns mainGlobals mg) (X : K.In base) {N : List Str} {sc : Scope} {L : Nat} (hL : 4 ≤ L) : OkSs (czOf P w K mg base N sc L (gx K)) b_law_3 := ⟨⟨co_slot_message c Gm X (Nat.le_trans (by decide) hL), ⟨trivial, ⟨trivial, ⟨trivial, trivial⟩⟩⟩⟩, ⟨⟨⟨⟨co__law_is_integer c Gm X (Nat.le_trans (by decide) hL), ⟨trivial, trivial⟩⟩, ⟨⟨trivial, ⟨co__law_centred c Gm X (Nat.le_trans (by decide) hL), ⟨⟨trivial, ⟨trivial, ⟨trivial, trivial⟩⟩⟩, ⟨trivial, trivial⟩⟩⟩⟩, trivial⟩⟩, ⟨trivial, trivial⟩, trivial⟩, ⟨⟨⟨trivial, ⟨co_slot_message c Gm X (Nat.le_trans (by decide) hL), ⟨trivial, ⟨trivial, ⟨⟨trivial, ⟨trivial, trivial⟩⟩, trivial⟩⟩⟩⟩⟩, ⟨trivial, trivial⟩, trivial⟩, trivial⟩⟩⟩
theorem ob_b_law_4 {P : Program} {w : World} {K : PySem.W.Frag} {mg : Str → Option Value} {base : Heap} (c : SaysM fb fn K) (Gm : base.Ns mainGlobals mg) (X : K.In base) {N : List Str} {sc : Scope} {L : Nat} (hL : 4 ≤ L) : OkSs (czOf P w K mg base N sc L (gx K)) b_law_4 := ⟨⟨⟨⟨co__law_refuses c Gm X (Nat.le_trans (by decide) hL), ⟨trivial, ⟨trivial, ⟨trivial, ⟨trivial, trivial⟩⟩⟩⟩⟩, ⟨⟨co__law_refuses c Gm X (Nat.le_trans (by decide) hL), ⟨trivial, ⟨trivial, ⟨trivial, ⟨trivial, trivial⟩⟩⟩⟩⟩, trivial⟩⟩, ⟨trivial, trivial⟩, trivial⟩, trivial⟩
theorem ob_b_law_5 {P : Program} {w : World} {K : PySem.W.Frag} {mg : Str → Option Value} {base : Heap} (c : SaysM fb fn K) (Gm : base.Ns mainGlobals mg) (X : K.In base) {N : List Str} {sc : Scope} {L : Nat} (hL : 4 ≤ L) : OkSs (czOf P w K mg base N sc L (gx K)) b_law_5 := ⟨⟨⟨⟨co__law_refuses c Gm X (Nat.le_trans (by decide) hL), ⟨trivial, ⟨trivial, ⟨trivial, ⟨trivial, trivial⟩⟩⟩⟩⟩, ⟨⟨co__law_refuses c Gm X (Nat.le_trans (by decide) hL), ⟨trivial, ⟨trivial, ⟨trivial, ⟨trivial, trivial⟩⟩⟩⟩⟩, trivial⟩⟩, ⟨trivial, trivial⟩, trivial⟩, trivial⟩
theorem ok_law {P : Program} {w : World} {K : PySem.W.Frag} {mg : Str → Option Value} {base : Heap} (c : SaysM fb fn K) (Gm : base.Ns mainGlobals mg) (X : K.In base) {N : List Str} {sc : Scope} {L : Nat} (hL : 4 ≤ L) : OkSs (czOf P w K mg base N sc L (gx K)) c_law := ⟨⟨co__law_wide c Gm X (Nat.le_trans (by decide) hL), ⟨⟨co__law_cell c Gm X (Nat.le_trans (by decide) hL), ⟨trivial, ⟨trivial, trivial⟩⟩⟩, trivial⟩⟩, ⟨⟨trivial, ⟨⟨fr_int c Gm X, ⟨trivial, trivial⟩⟩, trivial⟩⟩, ⟨⟨⟨fr_int c Gm X, ⟨⟨trivial, trivial⟩, trivial⟩⟩, trivial⟩, ⟨⟨⟨⟨⟨fr_int c Gm X, ⟨⟨⟨trivial, ⟨trivial, trivial⟩⟩, trivial⟩, trivial⟩⟩, trivial⟩, trivial⟩, ⟨⟨trivial, ⟨⟨fr_int c Gm X, ⟨trivial, trivial⟩⟩, trivial⟩⟩, ⟨⟨⟨fr_int c Gm X, ⟨⟨trivial, trivial⟩, trivial⟩⟩, trivial⟩, trivial⟩⟩, trivial⟩, ⟨trivial, ⟨⟨⟨fr_range c Gm X, trivial⟩, ob_b_law_0 c Gm X hL⟩, ⟨⟨co__law_values c Gm X (Nat.le_trans (by decide) hL), ⟨⟨co__law_cell c Gm X (Nat.le_trans (by decide) hL), ⟨trivial, ⟨trivial, trivial⟩⟩⟩, ⟨trivial, ⟨trivial, ⟨trivial, trivial⟩⟩⟩⟩⟩, ⟨⟨fr_list c Gm X, ⟨trivial, trivial⟩⟩, ⟨⟨co_table_poly c Gm X (Nat.le_trans (by decide) hL), ⟨trivial, ⟨trivial, trivial⟩⟩⟩, ⟨⟨⟨⟨⟨fr_isinstance c Gm X, fr_list c Gm X, boot_list, by decide, by decide⟩, trivial⟩, ⟨⟨⟨fr_len c Gm X, ⟨trivial, trivial⟩⟩, trivial⟩, ⟨⟨trivial, trivial⟩, trivial⟩⟩⟩, ⟨trivial, trivial⟩, trivial⟩, ⟨⟨trivial, ob_b_law_1 c Gm X hL⟩, ⟨⟨⟨⟨co__law_cell c Gm X (Nat.le_trans (by decide) hL), ⟨trivial, ⟨trivial, trivial⟩⟩⟩, ⟨⟨co__law_cell c Gm X (Nat.le_trans (by decide) hL), ⟨trivial, ⟨trivial, trivial⟩⟩⟩, trivial⟩⟩, ⟨trivial, trivial, ⟨fr_range c Gm X, ⟨trivial, trivial⟩⟩⟩⟩, ⟨⟨⟨trivial, trivial⟩, ⟨⟨⟨⟨trivial, trivial, trivial⟩, ⟨co__law_values c Gm X (Nat.le_trans (by decide) hL), ⟨⟨co__law_cell c Gm X (Nat.le_trans (by decide) hL), ⟨trivial, ⟨trivial, trivial⟩⟩⟩, ⟨trivial, ⟨trivial, ⟨⟨trivial, trivial⟩, trivial⟩⟩⟩⟩⟩⟩, ⟨trivial, ⟨⟨fr_len c Gm X, ⟨trivial, trivial⟩⟩, trivial⟩, trivial⟩⟩, trivial⟩, trivial⟩, ⟨⟨trivial, ob_b_law_2 c Gm X hL⟩, ⟨⟨⟨trivial, trivial⟩, ⟨trivial, ⟨⟨fr_int c Gm X, ⟨⟨trivial, trivial⟩, trivial⟩⟩, trivial⟩⟩⟩, ⟨⟨⟨⟨co__law_cell c Gm X (Nat.le_trans (by decide) hL), ⟨trivial, ⟨trivial, trivial⟩⟩⟩, ⟨trivial, ⟨trivial, ⟨⟨⟨trivial, trivial⟩, trivial⟩, ⟨⟨trivial, trivial⟩, trivial⟩⟩⟩⟩⟩, ob_b_law_3 c Gm X hL⟩, ⟨⟨⟨co__law_refuses c Gm X (Nat.le_trans (by decide) hL), ⟨trivial, ⟨⟨trivial, trivial⟩, ⟨trivial, ⟨trivial, trivial⟩⟩⟩⟩⟩, ⟨trivial, trivial⟩, trivial⟩, ⟨⟨⟨trivial, ⟨trivial, ⟨trivial, ⟨trivial, ⟨⟨trivial, trivial⟩, trivial⟩⟩⟩⟩⟩, ob_b_law_4 c Gm X hL⟩, ⟨⟨⟨trivial, ⟨trivial, ⟨trivial, trivial⟩⟩⟩, ob_b_law_5 c Gm X hL⟩, ⟨⟨⟨co__law_refuses c Gm X (Nat.le_trans (by decide) hL), ⟨trivial, ⟨⟨trivial, trivial⟩, ⟨trivial, ⟨trivial, trivial⟩⟩⟩⟩⟩, ⟨trivial, trivial⟩, trivial⟩, ⟨⟨co__law_refuses c Gm X (Nat.le_trans (by decide) hL), ⟨trivial, ⟨trivial, ⟨trivial, ⟨trivial, trivial⟩⟩⟩⟩⟩, trivial⟩⟩⟩⟩⟩⟩⟩⟩⟩⟩⟩⟩⟩⟩⟩⟩⟩⟩⟩⟩⟩
theorem fo_law {P : Program} {w : World} {K : PySem.W.Frag} {mg : Str → Option Value} {base : Heap} (c : SaysM fb fn K) (Gm : base.Ns mainGlobals mg) (X : K.In base) {fd : FuncData} (F : FunD K d_law.name d_law.qual d_law.params d_law.body d_law.scope (d_law.dvs K) (d_law.kws K) (He.fAd K d_law.at_) fd) : FnOk P w K mg base (L2.CX P w) 5 (He.fAd K d_law.at_) fd ["script"] (spOf K (gx K) false 1 r_law) := fn_sound F s_law k_law (ok_law c Gm X (Nat.le_refl _))
abbrev Rr : PySem.W.OpenRow := PySem.W.OpenLaw.row PySem.Challenge.rw_noisepurse_k47_windows_and_tables
abbrev hk : PySem.W.Hook := hookM 5 fb fn
def ob (s : PySem.W.SharedT) : He.AlD := obsMG 5 fb fn (HandSHeadRun.getT s)
theorem ob_eq (s : PySem.W.SharedT) : ob s = hk.obs s.abs := obsMG_eq (HandSHeadRun.getT_eq s)
def lo_0 : List Str := ["PurseError", "OutOfRange", "Malformed", "check_modulus", "centred", "check_size", "check_slots", "check_modulus_slots", "slot_message", "slot_of", "table_poly", "_law_cell", "_law_is_integer", "_law_wide", "_law_values", "_law_centred", "_law_refuses", "_law_window"]
def lo : List Str := lo_0
theorem run (w : World) : HandSHeadRun.RunEq Rr (PySem.W.view Rr.prog [23]) hk ob 3000 lo w := by
  intro os
  kernel_rfl
theorem facts {P : Program} {w : World} {K : PySem.W.Frag} {h : Heap} {mg : Str → Option Value} {f : Addr} (X : K.In h) (Gm : h.Ns mainGlobals mg) (hfa : mg ("law" : Str) = some (.ref f)) (c : SaysM fb fn K) :
    ∃ fd : FuncData, (∀ (s : Shared) (v : Value), BindsTo s fd ⟨[v], []⟩ [("script", v)]) ∧ ∀ base : Heap, K.In base → base.Ns mainGlobals mg → FnOk P w K mg base (L2.CX P w) 5 f fd ["script"] (spOf K (gx K) false 1 r_law) := by
  obtain ⟨fd, F⟩ := c.def_ 15 (d := d_law) rfl
  have e := hfa.symm.trans (He.glo_ok X Gm (c.fact 38 (f := .fa (.glo "law")) rfl))
  cases e
  have b := FunD.bindsA (ps := ["script"]) F fun _ _ _ _ _ _ us hl => match us, hl with | [_], _ => rfl
  exact ⟨fd, fun s v => b s [v] rfl, fun base X Gm => fo_law c Gm X F⟩
end LW

namespace LW
open PySem PySem.Spec PyProof.Rows L2 MP
theorem pw18 : bop .pow (.int 10) (.int 18) = .ok (.int 1000000000000000000) := by
  rw [b_pow (by decide)]
  rfl
theorem e_check_modulus (n : Int) : r_check_modulus [.int n] = if n < 1 then .exc 1 else .ok .non := by
  simp [r_check_modulus, runF_eq, c_check_modulus, xs_nil, xs_cons, x_try, x_skip, x_expr, x_set, x_setO, ow_lst, x_frz, x_unpack, up_some, x_par, x_aug, aug_fr, aug_ii, x_app, x_setI, x_augI, x_setF, sf_oo, x_ite, it_ok, it_exc, it_ite, x_ret, x_retF, rf_lst, x_retO, ro_ow, x_retN, x_raise, x_for, x_while, x_brk, x_cont, tr_next, tr_ret, tr_exc, hk_t, hk_f, hd_ret, tr_ite, bd_next, bd_ret, bd_brk, bd_cont, bd_exc, bd_stuck, bd_ite, fin_ite, fin_next, fin_ret, fin_exc, bnd_ok, bnd_exc, bnd_stuck, bnd_ite, sb_ok, sb_exc, sb_stuck, sb_ite, truR_bl, truR_int, isB_bl, cop_lt, cop_le, cop_gt, cop_ge, cop_eqi, cop_nei, b_add, b_sub, b_band, b_bor, b_bxor, e_var, t_var, vr_fr, tp_fr, tp_ow, ng_int, e_int, e_str, e_bl, e_non, e_glob, e_bin, e_cmp, e_neg, e_not, e_and, e_or, e_ite, e_chain, e_isN, e_notN, e_isIn, e_idx, e_slc, e_fld, e_call, e_meth, e_mk, e_blt, e_isI, e_isX, e_brw, e_comp, b_nm, b_tt, b_tl, sn_nil, sn_cons, evEs, evTs, evAnd, evOr, topOf, sl, env0, isOmit, freeB, wipe', frz, frzS, bltP, MP.items?, lits?, i_r1, i_r2, i_seq, i_enum, i_rev, i_zip, seq_lst, seq_lsk, seq_tup, enum_lst, enum_lsk, rev_lst, rev_tup, zip_lst, zip_tup, e_list, e_tuple, is_ii, is_ib, is_ll, sl_il, partP]
theorem e_check_size (n : Int) : r_check_size [.int n] = if 1 ≤ n ∧ n ≤ 1024 ∧ Builtin.bitAnd n (n - 1) = 0 then .ok .non else .exc 1 := by
  by_cases h1 : 1 ≤ n <;> by_cases h2 : n ≤ 1024 <;> by_cases h3 : Builtin.bitAnd n (n - 1) = 0 <;> simp [r_check_size, runF_eq, c_check_size, xs_nil, xs_cons, x_try, x_skip, x_expr, x_set, x_setO, ow_lst, x_frz, x_unpack, up_some, x_par, x_aug, aug_fr, aug_ii, x_app, x_setI, x_augI, x_setF, sf_oo, x_ite, it_ok, it_exc, it_ite, x_ret, x_retF, rf_lst, x_retO, ro_ow, x_retN, x_raise, x_for, x_while, x_brk, x_cont, tr_next, tr_ret, tr_exc, hk_t, hk_f, hd_ret, tr_ite, bd_next, bd_ret, bd_brk, bd_cont, bd_exc, bd_stuck, bd_ite, fin_ite, fin_next, fin_ret, fin_exc, bnd_ok, bnd_exc, bnd_stuck, bnd_ite, sb_ok, sb_exc, sb_stuck, sb_ite, truR_bl, truR_int, isB_bl, cop_lt, cop_le, cop_gt, cop_ge, cop_eqi, cop_nei, b_add, b_sub, b_band, b_bor, b_bxor, e_var, t_var, vr_fr, tp_fr, tp_ow, ng_int, e_int, e_str, e_bl, e_non, e_glob, e_bin, e_cmp, e_neg, e_not, e_and, e_or, e_ite, e_chain, e_isN, e_notN, e_isIn, e_idx, e_slc, e_fld, e_call, e_meth, e_mk, e_blt, e_isI, e_isX, e_brw, e_comp, b_nm, b_tt, b_tl, sn_nil, sn_cons, evEs, evTs, evAnd, evOr, topOf, sl, env0, isOmit, freeB, wipe', frz, frzS, bltP, MP.items?, lits?, i_r1, i_r2, i_seq, i_enum, i_rev, i_zip, seq_lst, seq_lsk, seq_tup, enum_lst, enum_lsk, rev_lst, rev_tup, zip_lst, zip_tup, e_list, e_tuple, is_ii, is_ib, is_ll, sl_il, partP, h1, h2, h3, Int.not_le, Int.not_lt] <;> omega
theorem e_check_slots (d s : Int) : r_check_slots [.int d, .int s] = if (1 ≤ d ∧ d ≤ 1024 ∧ Builtin.bitAnd d (d - 1) = 0) ∧ 1 ≤ s ∧ Builtin.bitAnd s (s - 1) = 0 ∧ 2 * s ≤ d then .ok .non else .exc 1 := by
  by_cases h : 1 ≤ d ∧ d ≤ 1024 ∧ Builtin.bitAnd d (d - 1) = 0
  · by_cases h1 : 1 ≤ s <;> by_cases h2 : 2 * s ≤ d <;> by_cases h3 : Builtin.bitAnd s (s - 1) = 0 <;> simp [r_check_slots, runF_eq, c_check_slots, xs_nil, xs_cons, x_try, x_skip, x_expr, x_set, x_setO, ow_lst, x_frz, x_unpack, up_some, x_par, x_aug, aug_fr, aug_ii, x_app, x_setI, x_augI, x_setF, sf_oo, x_ite, it_ok, it_exc, it_ite, x_ret, x_retF, rf_lst, x_retO, ro_ow, x_retN, x_raise, x_for, x_while, x_brk, x_cont, tr_next, tr_ret, tr_exc, hk_t, hk_f, hd_ret, tr_ite, bd_next, bd_ret, bd_brk, bd_cont, bd_exc, bd_stuck, bd_ite, fin_ite, fin_next, fin_ret, fin_exc, bnd_ok, bnd_exc, bnd_stuck, bnd_ite, sb_ok, sb_exc, sb_stuck, sb_ite, truR_bl, truR_int, isB_bl, cop_lt, cop_le, cop_gt, cop_ge, cop_eqi, cop_nei, b_add, b_sub, b_band, b_bor, b_bxor, e_var, t_var, vr_fr, tp_fr, tp_ow, ng_int, e_int, e_str, e_bl, e_non, e_glob, e_bin, e_cmp, e_neg, e_not, e_and, e_or, e_ite, e_chain, e_isN, e_notN, e_isIn, e_idx, e_slc, e_fld, e_call, e_meth, e_mk, e_blt, e_isI, e_isX, e_brw, e_comp, b_nm, b_tt, b_tl, sn_nil, sn_cons, evEs, evTs, evAnd, evOr, topOf, sl, env0, isOmit, freeB, wipe', frz, frzS, bltP, MP.items?, lits?, i_r1, i_r2, i_seq, i_enum, i_rev, i_zip, seq_lst, seq_lsk, seq_tup, enum_lst, enum_lsk, rev_lst, rev_tup, zip_lst, zip_tup, e_list, e_tuple, is_ii, is_ib, is_ll, sl_il, partP, e_check_size, h, h1, h2, h3, b_mul (mulB_l (i := 2) (by decide) (by decide)), Int.not_le, Int.not_lt] <;> (repeat' split) <;> first | rfl | omega
  · simp [r_check_slots, runF_eq, c_check_slots, xs_nil, xs_cons, x_try, x_skip, x_expr, x_set, x_setO, ow_lst, x_frz, x_unpack, up_some, x_par, x_aug, aug_fr, aug_ii, x_app, x_setI, x_augI, x_setF, sf_oo, x_ite, it_ok, it_exc, it_ite, x_ret, x_retF, rf_lst, x_retO, ro_ow, x_retN, x_raise, x_for, x_while, x_brk, x_cont, tr_next, tr_ret, tr_exc, hk_t, hk_f, hd_ret, tr_ite, bd_next, bd_ret, bd_brk, bd_cont, bd_exc, bd_stuck, bd_ite, fin_ite, fin_next, fin_ret, fin_exc, bnd_ok, bnd_exc, bnd_stuck, bnd_ite, sb_ok, sb_exc, sb_stuck, sb_ite, truR_bl, truR_int, isB_bl, cop_lt, cop_le, cop_gt, cop_ge, cop_eqi, cop_nei, b_add, b_sub, b_band, b_bor, b_bxor, e_var, t_var, vr_fr, tp_fr, tp_ow, ng_int, e_int, e_str, e_bl, e_non, e_glob, e_bin, e_cmp, e_neg, e_not, e_and, e_or, e_ite, e_chain, e_isN, e_notN, e_isIn, e_idx, e_slc, e_fld, e_call, e_meth, e_mk, e_blt, e_isI, e_isX, e_brw, e_comp, b_nm, b_tt, b_tl, sn_nil, sn_cons, evEs, evTs, evAnd, evOr, topOf, sl, env0, isOmit, freeB, wipe', frz, frzS, bltP, MP.items?, lits?, i_r1, i_r2, i_seq, i_enum, i_rev, i_zip, seq_lst, seq_lsk, seq_tup, enum_lst, enum_lsk, rev_lst, rev_tup, zip_lst, zip_tup, e_list, e_tuple, is_ii, is_ib, is_ll, sl_il, partP, e_check_size, h]
theorem e_check_modulus_slots (m s : Int) : r_check_modulus_slots [.int m, .int s] = if 1 ≤ s ∧ Builtin.bitAnd s (s - 1) = 0 ∧ m % (2 * s) = 0 then .ok .non else .exc 1 := by
  by_cases h1 : 1 ≤ s
  · by_cases h2 : m % (2 * s) = 0 <;> by_cases h3 : Builtin.bitAnd s (s - 1) = 0 <;> simp [r_check_modulus_slots, runF_eq, c_check_modulus_slots, xs_nil, xs_cons, x_try, x_skip, x_expr, x_set, x_setO, ow_lst, x_frz, x_unpack, up_some, x_par, x_aug, aug_fr, aug_ii, x_app, x_setI, x_augI, x_setF, sf_oo, x_ite, it_ok, it_exc, it_ite, x_ret, x_retF, rf_lst, x_retO, ro_ow, x_retN, x_raise, x_for, x_while, x_brk, x_cont, tr_next, tr_ret, tr_exc, hk_t, hk_f, hd_ret, tr_ite, bd_next, bd_ret, bd_brk, bd_cont, bd_exc, bd_stuck, bd_ite, fin_ite, fin_next, fin_ret, fin_exc, bnd_ok, bnd_exc, bnd_stuck, bnd_ite, sb_ok, sb_exc, sb_stuck, sb_ite, truR_bl, truR_int, isB_bl, cop_lt, cop_le, cop_gt, cop_ge, cop_eqi, cop_nei, b_add, b_sub, b_band, b_bor, b_bxor, e_var, t_var, vr_fr, tp_fr, tp_ow, ng_int, e_int, e_str, e_bl, e_non, e_glob, e_bin, e_cmp, e_neg, e_not, e_and, e_or, e_ite, e_chain, e_isN, e_notN, e_isIn, e_idx, e_slc, e_fld, e_call, e_meth, e_mk, e_blt, e_isI, e_isX, e_brw, e_comp, b_nm, b_tt, b_tl, sn_nil, sn_cons, evEs, evTs, evAnd, evOr, topOf, sl, env0, isOmit, freeB, wipe', frz, frzS, bltP, MP.items?, lits?, i_r1, i_r2, i_seq, i_enum, i_rev, i_zip, seq_lst, seq_lsk, seq_tup, enum_lst, enum_lsk, rev_lst, rev_tup, zip_lst, zip_tup, e_list, e_tuple, is_ii, is_ib, is_ll, sl_il, partP, h1, h2, h3, b_mul (mulB_l (i := 2) (by decide) (by decide)), b_mod (show 0 < 2 * s by omega), Int.not_le, Int.not_lt] <;> omega
  · simp [r_check_modulus_slots, runF_eq, c_check_modulus_slots, xs_nil, xs_cons, x_try, x_skip, x_expr, x_set, x_setO, ow_lst, x_frz, x_unpack, up_some, x_par, x_aug, aug_fr, aug_ii, x_app, x_setI, x_augI, x_setF, sf_oo, x_ite, it_ok, it_exc, it_ite, x_ret, x_retF, rf_lst, x_retO, ro_ow, x_retN, x_raise, x_for, x_while, x_brk, x_cont, tr_next, tr_ret, tr_exc, hk_t, hk_f, hd_ret, tr_ite, bd_next, bd_ret, bd_brk, bd_cont, bd_exc, bd_stuck, bd_ite, fin_ite, fin_next, fin_ret, fin_exc, bnd_ok, bnd_exc, bnd_stuck, bnd_ite, sb_ok, sb_exc, sb_stuck, sb_ite, truR_bl, truR_int, isB_bl, cop_lt, cop_le, cop_gt, cop_ge, cop_eqi, cop_nei, b_add, b_sub, b_band, b_bor, b_bxor, e_var, t_var, vr_fr, tp_fr, tp_ow, ng_int, e_int, e_str, e_bl, e_non, e_glob, e_bin, e_cmp, e_neg, e_not, e_and, e_or, e_ite, e_chain, e_isN, e_notN, e_isIn, e_idx, e_slc, e_fld, e_call, e_meth, e_mk, e_blt, e_isI, e_isX, e_brw, e_comp, b_nm, b_tt, b_tl, sn_nil, sn_cons, evEs, evTs, evAnd, evOr, topOf, sl, env0, isOmit, freeB, wipe', frz, frzS, bltP, MP.items?, lits?, i_r1, i_r2, i_seq, i_enum, i_rev, i_zip, seq_lst, seq_lsk, seq_tup, enum_lst, enum_lsk, rev_lst, rev_tup, zip_lst, zip_tup, e_list, e_tuple, is_ii, is_ib, is_ll, sl_il, partP, h1, Int.not_le.mp h1]
theorem e_centred (a k : Int) (h : 1 ≤ k) : r_centred [.int a, .int k] = .ok (.int (k / 2 - (k / 2 - a) % k)) := by
  simp [r_centred, runF_eq, c_centred, xs_nil, xs_cons, x_try, x_skip, x_expr, x_set, x_setO, ow_lst, x_frz, x_unpack, up_some, x_par, x_aug, aug_fr, aug_ii, x_app, x_setI, x_augI, x_setF, sf_oo, x_ite, it_ok, it_exc, it_ite, x_ret, x_retF, rf_lst, x_retO, ro_ow, x_retN, x_raise, x_for, x_while, x_brk, x_cont, tr_next, tr_ret, tr_exc, hk_t, hk_f, hd_ret, tr_ite, bd_next, bd_ret, bd_brk, bd_cont, bd_exc, bd_stuck, bd_ite, fin_ite, fin_next, fin_ret, fin_exc, bnd_ok, bnd_exc, bnd_stuck, bnd_ite, sb_ok, sb_exc, sb_stuck, sb_ite, truR_bl, truR_int, isB_bl, cop_lt, cop_le, cop_gt, cop_ge, cop_eqi, cop_nei, b_add, b_sub, b_band, b_bor, b_bxor, e_var, t_var, vr_fr, tp_fr, tp_ow, ng_int, e_int, e_str, e_bl, e_non, e_glob, e_bin, e_cmp, e_neg, e_not, e_and, e_or, e_ite, e_chain, e_isN, e_notN, e_isIn, e_idx, e_slc, e_fld, e_call, e_meth, e_mk, e_blt, e_isI, e_isX, e_brw, e_comp, b_nm, b_tt, b_tl, sn_nil, sn_cons, evEs, evTs, evAnd, evOr, topOf, sl, env0, isOmit, freeB, wipe', frz, frzS, bltP, MP.items?, lits?, i_r1, i_r2, i_seq, i_enum, i_rev, i_zip, seq_lst, seq_lsk, seq_tup, enum_lst, enum_lsk, rev_lst, rev_tup, zip_lst, zip_tup, e_list, e_tuple, is_ii, is_ib, is_ll, sl_il, partP, e_check_modulus, b_div (divB_s (j := 2) (by decide) (by decide)), b_mod (show 0 < k by omega), Int.not_lt.mpr h]
def cen (v m : Int) : Int := if m < 2 * (v % m) then v % m - m else v % m
theorem e_law_centred (v m : Int) (h : 0 < m) : r__law_centred [.int v, .int m] = .ok (.int (cen v m)) := by
  unfold cen
  by_cases h2 : m < 2 * (v % m) <;> simp [r__law_centred, runF_eq, c__law_centred, xs_nil, xs_cons, x_try, x_skip, x_expr, x_set, x_setO, ow_lst, x_frz, x_unpack, up_some, x_par, x_aug, aug_fr, aug_ii, x_app, x_setI, x_augI, x_setF, sf_oo, x_ite, it_ok, it_exc, it_ite, x_ret, x_retF, rf_lst, x_retO, ro_ow, x_retN, x_raise, x_for, x_while, x_brk, x_cont, tr_next, tr_ret, tr_exc, hk_t, hk_f, hd_ret, tr_ite, bd_next, bd_ret, bd_brk, bd_cont, bd_exc, bd_stuck, bd_ite, fin_ite, fin_next, fin_ret, fin_exc, bnd_ok, bnd_exc, bnd_stuck, bnd_ite, sb_ok, sb_exc, sb_stuck, sb_ite, truR_bl, truR_int, isB_bl, cop_lt, cop_le, cop_gt, cop_ge, cop_eqi, cop_nei, b_add, b_sub, b_band, b_bor, b_bxor, e_var, t_var, vr_fr, tp_fr, tp_ow, ng_int, e_int, e_str, e_bl, e_non, e_glob, e_bin, e_cmp, e_neg, e_not, e_and, e_or, e_ite, e_chain, e_isN, e_notN, e_isIn, e_idx, e_slc, e_fld, e_call, e_meth, e_mk, e_blt, e_isI, e_isX, e_brw, e_comp, b_nm, b_tt, b_tl, sn_nil, sn_cons, evEs, evTs, evAnd, evOr, topOf, sl, env0, isOmit, freeB, wipe', frz, frzS, bltP, MP.items?, lits?, i_r1, i_r2, i_seq, i_enum, i_rev, i_zip, seq_lst, seq_lsk, seq_tup, enum_lst, enum_lsk, rev_lst, rev_tup, zip_lst, zip_tup, e_list, e_tuple, is_ii, is_ib, is_ll, sl_il, partP, b_mul (mulB_l (i := 2) (by decide) (by decide)), b_mod h, h2]
theorem cen_eq (v m : Int) (h : 0 < m) : m / 2 - (m / 2 - v) % m = cen v m := by
  unfold cen
  have h1 := Int.emod_nonneg v (show m ≠ 0 by omega)
  have h2 := Int.emod_lt_of_pos v h
  have h3 := Int.emod_nonneg (m / 2 - v) (show m ≠ 0 by omega)
  have h4 := Int.emod_lt_of_pos (m / 2 - v) h
  have h5 := Int.emod_add_mul_ediv v m
  have h6 := Int.emod_add_mul_ediv (m / 2 - v) m
  generalize hA : m * (v / m) = A at h5
  generalize hB : m * ((m / 2 - v) / m) = B at h6
  have hab : A + B = m * (v / m + (m / 2 - v) / m) := by rw [Int.mul_add, hA, hB]
  generalize v / m + (m / 2 - v) / m = q at hab
  have hq : q = 0 ∨ q = -1 ∨ q ≥ 1 ∨ q ≤ -2 := by omega
  rcases hq with rfl | rfl | hq | hq
  · simp at hab
    split <;> omega
  · have : A + B = -m := by rw [hab]; omega
    split <;> omega
  · have : m * 1 ≤ m * q := Int.mul_le_mul_of_nonneg_left hq (by omega)
    split <;> omega
  · have : m * q ≤ m * (-2) := Int.mul_le_mul_of_nonneg_left hq (by omega)
    split <;> omega
theorem e_cell (ns : List Int) (k : Nat) : ∃ v : Int, r__law_cell [.lsk (il ns), .int k] = .ok (.int v) := by
  by_cases h : (k : Int) < ns.length
  · have hk : k < ns.length := by omega
    refine ⟨ns[k], ?_⟩
    have : atI (il ns) (k : Int) = some (.int ns[k]) := by
      rw [atI_nn (by omega) (by simpa using h)]
      simp [il_get, hk]
    simp [r__law_cell, runF_eq, c__law_cell, xs_nil, xs_cons, x_try, x_skip, x_expr, x_set, x_setO, ow_lst, x_frz, x_unpack, up_some, x_par, x_aug, aug_fr, aug_ii, x_app, x_setI, x_augI, x_setF, sf_oo, x_ite, it_ok, it_exc, it_ite, x_ret, x_retF, rf_lst, x_retO, ro_ow, x_retN, x_raise, x_for, x_while, x_brk, x_cont, tr_next, tr_ret, tr_exc, hk_t, hk_f, hd_ret, tr_ite, bd_next, bd_ret, bd_brk, bd_cont, bd_exc, bd_stuck, bd_ite, fin_ite, fin_next, fin_ret, fin_exc, bnd_ok, bnd_exc, bnd_stuck, bnd_ite, sb_ok, sb_exc, sb_stuck, sb_ite, truR_bl, truR_int, isB_bl, cop_lt, cop_le, cop_gt, cop_ge, cop_eqi, cop_nei, b_add, b_sub, b_band, b_bor, b_bxor, e_var, t_var, vr_fr, tp_fr, tp_ow, ng_int, e_int, e_str, e_bl, e_non, e_glob, e_bin, e_cmp, e_neg, e_not, e_and, e_or, e_ite, e_chain, e_isN, e_notN, e_isIn, e_idx, e_slc, e_fld, e_call, e_meth, e_mk, e_blt, e_isI, e_isX, e_brw, e_comp, b_nm, b_tt, b_tl, sn_nil, sn_cons, evEs, evTs, evAnd, evOr, topOf, sl, env0, isOmit, freeB, wipe', frz, frzS, bltP, MP.items?, lits?, i_r1, i_r2, i_seq, i_enum, i_rev, i_zip, seq_lst, seq_lsk, seq_tup, enum_lst, enum_lsk, rev_lst, rev_tup, zip_lst, zip_tup, e_list, e_tuple, is_ii, is_ib, is_ll, sl_il, partP, h, idxP, this]
  · exact ⟨0, by simp [r__law_cell, runF_eq, c__law_cell, xs_nil, xs_cons, x_try, x_skip, x_expr, x_set, x_setO, ow_lst, x_frz, x_unpack, up_some, x_par, x_aug, aug_fr, aug_ii, x_app, x_setI, x_augI, x_setF, sf_oo, x_ite, it_ok, it_exc, it_ite, x_ret, x_retF, rf_lst, x_retO, ro_ow, x_retN, x_raise, x_for, x_while, x_brk, x_cont, tr_next, tr_ret, tr_exc, hk_t, hk_f, hd_ret, tr_ite, bd_next, bd_ret, bd_brk, bd_cont, bd_exc, bd_stuck, bd_ite, fin_ite, fin_next, fin_ret, fin_exc, bnd_ok, bnd_exc, bnd_stuck, bnd_ite, sb_ok, sb_exc, sb_stuck, sb_ite, truR_bl, truR_int, isB_bl, cop_lt, cop_le, cop_gt, cop_ge, cop_eqi, cop_nei, b_add, b_sub, b_band, b_bor, b_bxor, e_var, t_var, vr_fr, tp_fr, tp_ow, ng_int, e_int, e_str, e_bl, e_non, e_glob, e_bin, e_cmp, e_neg, e_not, e_and, e_or, e_ite, e_chain, e_isN, e_notN, e_isIn, e_idx, e_slc, e_fld, e_call, e_meth, e_mk, e_blt, e_isI, e_isX, e_brw, e_comp, b_nm, b_tt, b_tl, sn_nil, sn_cons, evEs, evTs, evAnd, evOr, topOf, sl, env0, isOmit, freeB, wipe', frz, frzS, bltP, MP.items?, lits?, i_r1, i_r2, i_seq, i_enum, i_rev, i_zip, seq_lst, seq_lsk, seq_tup, enum_lst, enum_lsk, rev_lst, rev_tup, zip_lst, zip_tup, e_list, e_tuple, is_ii, is_ib, is_ll, sl_il, partP, h]⟩
theorem e_wide (c : Int) : ∃ v : Int, r__law_wide [.int c] = .ok (.int v) := by
  by_cases h : (1000000000000000000 : Int) ≤ (if c < 0 then -c else c)
  · exact ⟨if c < 0 then -c else c, by simp [r__law_wide, runF_eq, c__law_wide, xs_nil, xs_cons, x_try, x_skip, x_expr, x_set, x_setO, ow_lst, x_frz, x_unpack, up_some, x_par, x_aug, aug_fr, aug_ii, x_app, x_setI, x_augI, x_setF, sf_oo, x_ite, it_ok, it_exc, it_ite, x_ret, x_retF, rf_lst, x_retO, ro_ow, x_retN, x_raise, x_for, x_while, x_brk, x_cont, tr_next, tr_ret, tr_exc, hk_t, hk_f, hd_ret, tr_ite, bd_next, bd_ret, bd_brk, bd_cont, bd_exc, bd_stuck, bd_ite, fin_ite, fin_next, fin_ret, fin_exc, bnd_ok, bnd_exc, bnd_stuck, bnd_ite, sb_ok, sb_exc, sb_stuck, sb_ite, truR_bl, truR_int, isB_bl, cop_lt, cop_le, cop_gt, cop_ge, cop_eqi, cop_nei, b_add, b_sub, b_band, b_bor, b_bxor, e_var, t_var, vr_fr, tp_fr, tp_ow, ng_int, e_int, e_str, e_bl, e_non, e_glob, e_bin, e_cmp, e_neg, e_not, e_and, e_or, e_ite, e_chain, e_isN, e_notN, e_isIn, e_idx, e_slc, e_fld, e_call, e_meth, e_mk, e_blt, e_isI, e_isX, e_brw, e_comp, b_nm, b_tt, b_tl, sn_nil, sn_cons, evEs, evTs, evAnd, evOr, topOf, sl, env0, isOmit, freeB, wipe', frz, frzS, bltP, MP.items?, lits?, i_r1, i_r2, i_seq, i_enum, i_rev, i_zip, seq_lst, seq_lsk, seq_tup, enum_lst, enum_lsk, rev_lst, rev_tup, zip_lst, zip_tup, e_list, e_tuple, is_ii, is_ib, is_ll, sl_il, partP, pw18, h]⟩
  · obtain ⟨ρ', h1, a, b, k', rfl⟩ := forR_range (body := exSs b__law_wide_0) (i0 := 4) (lo := 0) (n := 4) (ρ := [.fr (.int c), .fr (.int (if c < 0 then -c else c)), .fr (.int ((if c < 0 then -c else c) % 2147483629 + 1)), .fr (.int 0), .un])
      (fun _ ρ => ∃ (a b : Int) (k' : Slot), ρ = [.fr (.int c), .fr (.int (if c < 0 then -c else c)), .fr (.int a), .fr (.int b), k']) ⟨_, _, _, rfl⟩ (fun i ρ _ ⟨a, b, k', e⟩ => by
        subst e
        refine ⟨_, .inl (by simp [b__law_wide_0, xs_nil, xs_cons, x_try, x_skip, x_expr, x_set, x_setO, ow_lst, x_frz, x_unpack, up_some, x_par, x_aug, aug_fr, aug_ii, x_app, x_setI, x_augI, x_setF, sf_oo, x_ite, it_ok, it_exc, it_ite, x_ret, x_retF, rf_lst, x_retO, ro_ow, x_retN, x_raise, x_for, x_while, x_brk, x_cont, tr_next, tr_ret, tr_exc, hk_t, hk_f, hd_ret, tr_ite, bd_next, bd_ret, bd_brk, bd_cont, bd_exc, bd_stuck, bd_ite, fin_ite, fin_next, fin_ret, fin_exc, bnd_ok, bnd_exc, bnd_stuck, bnd_ite, sb_ok, sb_exc, sb_stuck, sb_ite, truR_bl, truR_int, isB_bl, cop_lt, cop_le, cop_gt, cop_ge, cop_eqi, cop_nei, b_add, b_sub, b_band, b_bor, b_bxor, e_var, t_var, vr_fr, tp_fr, tp_ow, ng_int, e_int, e_str, e_bl, e_non, e_glob, e_bin, e_cmp, e_neg, e_not, e_and, e_or, e_ite, e_chain, e_isN, e_notN, e_isIn, e_idx, e_slc, e_fld, e_call, e_meth, e_mk, e_blt, e_isI, e_isX, e_brw, e_comp, b_nm, b_tt, b_tl, sn_nil, sn_cons, evEs, evTs, evAnd, evOr, topOf, sl, env0, isOmit, freeB, wipe', frz, frzS, bltP, MP.items?, lits?, i_r1, i_r2, i_seq, i_enum, i_rev, i_zip, seq_lst, seq_lsk, seq_tup, enum_lst, enum_lsk, rev_lst, rev_tup, zip_lst, zip_tup, e_list, e_tuple, is_ii, is_ib, is_ll, sl_il, partP, b_mul (mulB_r (j := 48271) (by decide) (by decide)), b_mul (mulB_r (j := 1073741824) (by decide) (by decide)), b_mul (mulB_r (j := 3) (by decide) (by decide)), b_mod (j := 2147483647) (by decide), b_mod (j := 1073741824) (by decide), b_div (divB_s (j := 5) (by decide) (by decide))]; exact ⟨rfl, rfl, rfl⟩), _, _, _, rfl⟩)
    exact ⟨b, by simp [r__law_wide, runF_eq, c__law_wide, xs_nil, xs_cons, x_try, x_skip, x_expr, x_set, x_setO, ow_lst, x_frz, x_unpack, up_some, x_par, x_aug, aug_fr, aug_ii, x_app, x_setI, x_augI, x_setF, sf_oo, x_ite, it_ok, it_exc, it_ite, x_ret, x_retF, rf_lst, x_retO, ro_ow, x_retN, x_raise, x_for, x_while, x_brk, x_cont, tr_next, tr_ret, tr_exc, hk_t, hk_f, hd_ret, tr_ite, bd_next, bd_ret, bd_brk, bd_cont, bd_exc, bd_stuck, bd_ite, fin_ite, fin_next, fin_ret, fin_exc, bnd_ok, bnd_exc, bnd_stuck, bnd_ite, sb_ok, sb_exc, sb_stuck, sb_ite, truR_bl, truR_int, isB_bl, cop_lt, cop_le, cop_gt, cop_ge, cop_eqi, cop_nei, b_add, b_sub, b_band, b_bor, b_bxor, e_var, t_var, vr_fr, tp_fr, tp_ow, ng_int, e_int, e_str, e_bl, e_non, e_glob, e_bin, e_cmp, e_neg, e_not, e_and, e_or, e_ite, e_chain, e_isN, e_notN, e_isIn, e_idx, e_slc, e_fld, e_call, e_meth, e_mk, e_blt, e_isI, e_isX, e_brw, e_comp, b_nm, b_tt, b_tl, sn_nil, sn_cons, evEs, evTs, evAnd, evOr, topOf, sl, env0, isOmit, freeB, wipe', frz, frzS, bltP, MP.items?, lits?, i_r1, i_r2, i_seq, i_enum, i_rev, i_zip, seq_lst, seq_lsk, seq_tup, enum_lst, enum_lsk, rev_lst, rev_tup, zip_lst, zip_tup, e_list, e_tuple, is_ii, is_ib, is_ll, sl_il, partP, pw18, h, b_mod (j := 2147483629) (by decide), r1_ok (n := 4) (by decide) (by decide), h1]⟩
theorem b_values (c n lo hi a b : Int) (k : MP.Slot) (i : Int) (g : Bool) (xs : List PV) (n0 : MP.Slot) (hz' : xs.length < 16777216) (hd0 : 0 < hi - lo + 1) (hd : hi - lo + 1 ≤ 18446744073709551616) :
    ∃ x a' b' n', exSs b__law_values_0 [.fr (.int c), .fr (.int n), .fr (.int lo), .fr (.int hi), .ow xs, .fr (.int a), .fr (.bl g), .fr (.int b), .fr (.int i), n0] = .next [.fr (.int c), .fr (.int n), .fr (.int lo), .fr (.int hi), .ow (xs ++ [.int (lo + x % (hi - lo + 1))]), .fr (.int a'), .fr (.bl g), .fr (.int b'), .fr (.int i), .fr (.int n')] := by
  have hz := fun i ρ v => ap_ok (ρ := ρ) (i := i) (v := v) hz'
  have h0 := b_mul (mulB_r (i := b) (j := 48271) (by decide) (by decide))
  have h1 := b_mod (i := b * 48271) (j := 2147483647) (by decide)
  have h2 := Int.emod_nonneg (b * 48271) (show (2147483647 : Int) ≠ 0 by decide)
  have h3 := Int.emod_lt_of_pos (b * 48271) (show (0 : Int) < 2147483647 by decide)
  generalize b * 48271 % 2147483647 = y at h1 h2 h3
  have h4 := b_mul (mulB_l (i := y) (j := y) (by omega) (by omega))
  have h5 := b_mul (mulB_r (i := y * y) (j := y) (by omega) (by omega))
  have h6 := b_div (divB_s (i := y * y * y) (j := 5) (by decide) (by decide))
  have h7 := fun i => b_mod (i := i) hd0
  have h8 := fun i => b_div (divB_s (i := i) hd0 hd)
  cases g with
  | false => exact ⟨y * y * y / 5, a, y, y * y * y / 5, by simp [b__law_values_0, xs_nil, xs_cons, x_try, x_skip, x_expr, x_set, x_setO, ow_lst, x_frz, x_unpack, up_some, x_par, x_aug, aug_fr, aug_ii, x_app, x_setI, x_augI, x_setF, sf_oo, x_ite, it_ok, it_exc, it_ite, x_ret, x_retF, rf_lst, x_retO, ro_ow, x_retN, x_raise, x_for, x_while, x_brk, x_cont, tr_next, tr_ret, tr_exc, hk_t, hk_f, hd_ret, tr_ite, bd_next, bd_ret, bd_brk, bd_cont, bd_exc, bd_stuck, bd_ite, fin_ite, fin_next, fin_ret, fin_exc, bnd_ok, bnd_exc, bnd_stuck, bnd_ite, sb_ok, sb_exc, sb_stuck, sb_ite, truR_bl, truR_int, isB_bl, cop_lt, cop_le, cop_gt, cop_ge, cop_eqi, cop_nei, b_add, b_sub, b_band, b_bor, b_bxor, e_var, t_var, vr_fr, tp_fr, tp_ow, ng_int, e_int, e_str, e_bl, e_non, e_glob, e_bin, e_cmp, e_neg, e_not, e_and, e_or, e_ite, e_chain, e_isN, e_notN, e_isIn, e_idx, e_slc, e_fld, e_call, e_meth, e_mk, e_blt, e_isI, e_isX, e_brw, e_comp, b_nm, b_tt, b_tl, sn_nil, sn_cons, evEs, evTs, evAnd, evOr, topOf, sl, env0, isOmit, freeB, wipe', frz, frzS, bltP, MP.items?, lits?, i_r1, i_r2, i_seq, i_enum, i_rev, i_zip, seq_lst, seq_lsk, seq_tup, enum_lst, enum_lsk, rev_lst, rev_tup, zip_lst, zip_tup, e_list, e_tuple, is_ii, is_ib, is_ll, sl_il, partP, h0, h1, h4, h5, h6, h7, hz]⟩
  | true =>
    by_cases ha : 0 < a
    · exact ⟨a, a / (hi - lo + 1), y, a, by simp [b__law_values_0, xs_nil, xs_cons, x_try, x_skip, x_expr, x_set, x_setO, ow_lst, x_frz, x_unpack, up_some, x_par, x_aug, aug_fr, aug_ii, x_app, x_setI, x_augI, x_setF, sf_oo, x_ite, it_ok, it_exc, it_ite, x_ret, x_retF, rf_lst, x_retO, ro_ow, x_retN, x_raise, x_for, x_while, x_brk, x_cont, tr_next, tr_ret, tr_exc, hk_t, hk_f, hd_ret, tr_ite, bd_next, bd_ret, bd_brk, bd_cont, bd_exc, bd_stuck, bd_ite, fin_ite, fin_next, fin_ret, fin_exc, bnd_ok, bnd_exc, bnd_stuck, bnd_ite, sb_ok, sb_exc, sb_stuck, sb_ite, truR_bl, truR_int, isB_bl, cop_lt, cop_le, cop_gt, cop_ge, cop_eqi, cop_nei, b_add, b_sub, b_band, b_bor, b_bxor, e_var, t_var, vr_fr, tp_fr, tp_ow, ng_int, e_int, e_str, e_bl, e_non, e_glob, e_bin, e_cmp, e_neg, e_not, e_and, e_or, e_ite, e_chain, e_isN, e_notN, e_isIn, e_idx, e_slc, e_fld, e_call, e_meth, e_mk, e_blt, e_isI, e_isX, e_brw, e_comp, b_nm, b_tt, b_tl, sn_nil, sn_cons, evEs, evTs, evAnd, evOr, topOf, sl, env0, isOmit, freeB, wipe', frz, frzS, bltP, MP.items?, lits?, i_r1, i_r2, i_seq, i_enum, i_rev, i_zip, seq_lst, seq_lsk, seq_tup, enum_lst, enum_lsk, rev_lst, rev_tup, zip_lst, zip_tup, e_list, e_tuple, is_ii, is_ib, is_ll, sl_il, partP, h0, h1, h4, h5, h6, h7, h8, hz, ha]⟩
    · exact ⟨y * y * y / 5, a, y, y * y * y / 5, by simp [b__law_values_0, xs_nil, xs_cons, x_try, x_skip, x_expr, x_set, x_setO, ow_lst, x_frz, x_unpack, up_some, x_par, x_aug, aug_fr, aug_ii, x_app, x_setI, x_augI, x_setF, sf_oo, x_ite, it_ok, it_exc, it_ite, x_ret, x_retF, rf_lst, x_retO, ro_ow, x_retN, x_raise, x_for, x_while, x_brk, x_cont, tr_next, tr_ret, tr_exc, hk_t, hk_f, hd_ret, tr_ite, bd_next, bd_ret, bd_brk, bd_cont, bd_exc, bd_stuck, bd_ite, fin_ite, fin_next, fin_ret, fin_exc, bnd_ok, bnd_exc, bnd_stuck, bnd_ite, sb_ok, sb_exc, sb_stuck, sb_ite, truR_bl, truR_int, isB_bl, cop_lt, cop_le, cop_gt, cop_ge, cop_eqi, cop_nei, b_add, b_sub, b_band, b_bor, b_bxor, e_var, t_var, vr_fr, tp_fr, tp_ow, ng_int, e_int, e_str, e_bl, e_non, e_glob, e_bin, e_cmp, e_neg, e_not, e_and, e_or, e_ite, e_chain, e_isN, e_notN, e_isIn, e_idx, e_slc, e_fld, e_call, e_meth, e_mk, e_blt, e_isI, e_isX, e_brw, e_comp, b_nm, b_tt, b_tl, sn_nil, sn_cons, evEs, evTs, evAnd, evOr, topOf, sl, env0, isOmit, freeB, wipe', frz, frzS, bltP, MP.items?, lits?, i_r1, i_r2, i_seq, i_enum, i_rev, i_zip, seq_lst, seq_lsk, seq_tup, enum_lst, enum_lsk, rev_lst, rev_tup, zip_lst, zip_tup, e_list, e_tuple, is_ii, is_ib, is_ll, sl_il, partP, h0, h1, h4, h5, h6, h7, hz, ha]⟩
theorem e_values (c : Int) (n : Nat) (lo hi : Int) (hn : n ≤ 1000000) (hlh : lo ≤ hi) (hd : hi - lo + 1 ≤ 18446744073709551616) : ∃ vs : List Int, vs.length = n ∧ (∀ v ∈ vs, lo ≤ v ∧ v ≤ hi) ∧ r__law_values [.int c, .int n, .int lo, .int hi] = .ok (.lst (il vs)) := by
  have hd0 : 0 < hi - lo + 1 := by omega
  obtain ⟨ρ', h1, vs, a, b, k', n', rfl, hl, hb⟩ := forR_range (body := exSs b__law_values_0) (i0 := 8) (lo := 0) (n := n) (ρ := [.fr (.int c), .fr (.int n), .fr (.int lo), .fr (.int hi), .ow [], .fr (.int (if c < 0 then -c else c)), .fr (.bl (decide (1000000000000000000 ≤ (if c < 0 then -c else c)))), .fr (.int ((if c < 0 then -c else c) % 2147483629 + 1)), .un, .un])
    (fun i ρ => ∃ (vs : List Int) (a b : Int) (k' n' : MP.Slot), ρ = [.fr (.int c), .fr (.int n), .fr (.int lo), .fr (.int hi), .ow (il vs), .fr (.int a), .fr (.bl (decide (1000000000000000000 ≤ (if c < 0 then -c else c)))), .fr (.int b), k', n'] ∧ vs.length = i ∧ ∀ v ∈ vs, lo ≤ v ∧ v ≤ hi) ⟨[], _, _, _, _, rfl, rfl, fun v h => by cases h⟩ (fun i ρ hi' ⟨vs, a, b, k', n', e, hl, hb⟩ => by
      subst e
      obtain ⟨x, a', b', n2, e⟩ := b_values c n lo hi a b k' (0 + i) (decide (1000000000000000000 ≤ (if c < 0 then -c else c))) (il vs) n' (by simp; omega) hd0 hd
      refine ⟨_, .inl e, vs ++ [lo + x % (hi - lo + 1)], a', b', .fr (.int (0 + i)), .fr (.int n2), by simp, by simp [hl], fun v hv => ?_⟩
      rcases List.mem_append.mp hv with h | h
      · exact hb v h
      · have e := List.mem_singleton.mp h
        have := Int.emod_nonneg x (show hi - lo + 1 ≠ 0 by omega)
        have := Int.emod_lt_of_pos x hd0
        omega)
  refine ⟨vs, hl, hb, ?_⟩
  simp [r__law_values, runF_eq, c__law_values, xs_nil, xs_cons, x_try, x_skip, x_expr, x_set, x_setO, ow_lst, x_frz, x_unpack, up_some, x_par, x_aug, aug_fr, aug_ii, x_app, x_setI, x_augI, x_setF, sf_oo, x_ite, it_ok, it_exc, it_ite, x_ret, x_retF, rf_lst, x_retO, ro_ow, x_retN, x_raise, x_for, x_while, x_brk, x_cont, tr_next, tr_ret, tr_exc, hk_t, hk_f, hd_ret, tr_ite, bd_next, bd_ret, bd_brk, bd_cont, bd_exc, bd_stuck, bd_ite, fin_ite, fin_next, fin_ret, fin_exc, bnd_ok, bnd_exc, bnd_stuck, bnd_ite, sb_ok, sb_exc, sb_stuck, sb_ite, truR_bl, truR_int, isB_bl, cop_lt, cop_le, cop_gt, cop_ge, cop_eqi, cop_nei, b_add, b_sub, b_band, b_bor, b_bxor, e_var, t_var, vr_fr, tp_fr, tp_ow, ng_int, e_int, e_str, e_bl, e_non, e_glob, e_bin, e_cmp, e_neg, e_not, e_and, e_or, e_ite, e_chain, e_isN, e_notN, e_isIn, e_idx, e_slc, e_fld, e_call, e_meth, e_mk, e_blt, e_isI, e_isX, e_brw, e_comp, b_nm, b_tt, b_tl, sn_nil, sn_cons, evEs, evTs, evAnd, evOr, topOf, sl, env0, isOmit, freeB, wipe', frz, frzS, bltP, MP.items?, lits?, i_r1, i_r2, i_seq, i_enum, i_rev, i_zip, seq_lst, seq_lsk, seq_tup, enum_lst, enum_lsk, rev_lst, rev_tup, zip_lst, zip_tup, e_list, e_tuple, is_ii, is_ib, is_ll, sl_il, partP, pw18, b_mod (j := 2147483629) (by decide), r1_nat (n := n) (by omega), lstR_ok, h1]
/-! ### the tables -/
theorem band2 : ∀ a : Nat, a < 11 → Builtin.bitAnd ((2 ^ a : Nat) : Int) ((2 ^ a : Nat) - 1 : Int) = 0 := by decide
structure DS (d s h : Int) : Prop where
  cs : r_check_slots [.int d, .int s] = .ok .non
  eq : d = 2 * h * s
  h1 : 1 ≤ h
  s1 : 1 ≤ s
  d1 : d ≤ 1024
  hb : 2 * h ≤ d
  sb : 2 * s ≤ d
theorem ds_of {a b : Nat} (ha : a ≤ b) (hb : b ≤ 9) : DS ((2 ^ (b + 1) : Nat) : Int) ((2 ^ a : Nat) : Int) ((2 ^ (b - a) : Nat) : Int) := by
  have e1 : 2 ^ (b + 1) = 2 * 2 ^ (b - a) * 2 ^ a := by rw [Nat.mul_assoc, ← Nat.pow_add, Nat.sub_add_cancel ha, Nat.pow_succ, Nat.mul_comm]
  have p1 : 1 ≤ 2 ^ (b - a) := Nat.one_le_two_pow
  have p2 : 1 ≤ 2 ^ a := Nat.one_le_two_pow
  have p3 : 2 ^ (b + 1) ≤ 2 ^ 10 := Nat.pow_le_pow_right (by decide) (by omega)
  have p4 : 2 * 2 ^ (b - a) ≤ 2 ^ (b + 1) := by rw [e1]; exact Nat.le_mul_of_pos_right _ p2
  have p5 : 2 * 2 ^ a ≤ 2 ^ (b + 1) := by rw [Nat.pow_succ, Nat.mul_comm]; exact Nat.mul_le_mul_right _ (Nat.pow_le_pow_right (by decide) ha)
  have p6 : (2 : Nat) ^ 10 = 1024 := by decide
  refine ⟨?_, by rw [e1]; simp, by omega, by omega, by omega, by omega, by omega⟩
  rw [e_check_slots, if_pos]
  exact ⟨⟨by omega, by omega, band2 (b + 1) (by omega)⟩, by omega, band2 a (by omega), by omega⟩
theorem half_of {d s h : Int} (D : DS d s h) : d / (2 * s) = h := by
  rw [D.eq, show 2 * h * s = (2 * s) * h by rw [Int.mul_assoc, Int.mul_comm h s, ← Int.mul_assoc]]
  exact Int.mul_ediv_cancel_left _ (by have := D.s1; omega)
def slotZ (d h p : Int) : Int := (p + h) % (2 * d) / (2 * h)
theorem e_slot_of {d s h : Int} (D : DS d s h) (p : Int) : r_slot_of [.int d, .int s, .int p] = .ok (.int (slotZ d h p)) := by
  have := D.h1; have := D.s1; have := D.d1; have := D.hb; have := D.sb
  simp [r_slot_of, runF_eq, c_slot_of, xs_nil, xs_cons, x_try, x_skip, x_expr, x_set, x_setO, ow_lst, x_frz, x_unpack, up_some, x_par, x_aug, aug_fr, aug_ii, x_app, x_setI, x_augI, x_setF, sf_oo, x_ite, it_ok, it_exc, it_ite, x_ret, x_retF, rf_lst, x_retO, ro_ow, x_retN, x_raise, x_for, x_while, x_brk, x_cont, tr_next, tr_ret, tr_exc, hk_t, hk_f, hd_ret, tr_ite, bd_next, bd_ret, bd_brk, bd_cont, bd_exc, bd_stuck, bd_ite, fin_ite, fin_next, fin_ret, fin_exc, bnd_ok, bnd_exc, bnd_stuck, bnd_ite, sb_ok, sb_exc, sb_stuck, sb_ite, truR_bl, truR_int, isB_bl, cop_lt, cop_le, cop_gt, cop_ge, cop_eqi, cop_nei, b_add, b_sub, b_band, b_bor, b_bxor, e_var, t_var, vr_fr, tp_fr, tp_ow, ng_int, e_int, e_str, e_bl, e_non, e_glob, e_bin, e_cmp, e_neg, e_not, e_and, e_or, e_ite, e_chain, e_isN, e_notN, e_isIn, e_idx, e_slc, e_fld, e_call, e_meth, e_mk, e_blt, e_isI, e_isX, e_brw, e_comp, b_nm, b_tt, b_tl, sn_nil, sn_cons, evEs, evTs, evAnd, evOr, topOf, sl, env0, isOmit, freeB, wipe', frz, frzS, bltP, MP.items?, lits?, i_r1, i_r2, i_seq, i_enum, i_rev, i_zip, seq_lst, seq_lsk, seq_tup, enum_lst, enum_lsk, rev_lst, rev_tup, zip_lst, zip_tup, e_list, e_tuple, is_ii, is_ib, is_ll, sl_il, partP, D.cs, b_mul (mulB_l (i := 2) (by decide) (by decide)), b_div (divB_s (j := 2 * s) (by omega) (by omega)), half_of D, b_mod (show 0 < 2 * d by omega), b_div (divB_s (j := 2 * h) (by omega) (by omega)), slotZ]
theorem tab_ix {d s h : Int} (D : DS d s h) {p : Int} (h0 : 0 ≤ p) (h1 : p < d) : 0 ≤ (p + h) / (2 * h) ∧ (p + h) / (2 * h) ≤ s := by
  have a1 := D.h1; have a2 := D.s1; have a3 := D.eq
  refine ⟨Int.ediv_nonneg (by omega) (by omega), Int.lt_add_one_iff.mp ((Int.ediv_lt_iff_lt_mul (by omega)).mpr ?_)⟩
  rw [Int.add_mul, Int.one_mul, show s * (2 * h) = 2 * h * s by rw [Int.mul_comm]]
  omega
def hdZ : List Int → Int
  | [] => 0
  | n :: _ => n
/-- the items of a table, by place -/
def polyZ (ns : List Int) (h : Int) (p : Nat) : Int := (ns ++ [-(hdZ ns)]).getD (((p : Int) + h) / (2 * h)).toNat 0
theorem e_table_poly {d h : Int} (ns : List Int) (D : DS d ns.length h) : r_table_poly [.int d, .lst (il ns)] = .ok (.lst (il ((List.range d.toNat).map (polyZ ns h)))) := by
  have a1 := D.h1; have a2 := D.s1; have a3 := D.d1; have a4 := D.hb; have a5 := D.sb
  have hl := D.cs
  have h0 : atI (il ns) 0 = some (.int (hdZ ns)) := by
    rw [atI_nn (by omega) (by simp; omega)]
    cases ns with
    | nil => simp at a2
    | cons n r => rfl
  have hm := mapC_range (f := cpR (.idx (.var 3) (.bin .fdiv (.bin .add (.var 4) (.var 2)) (.bin .mul (.int 2) (.var 2)))) .omit (.nm 4) [.fr (.int d), .fr (.lst (il ns)), .fr (.int h), .fr (.lst (il ns ++ [.int (-(hdZ ns))])), .un]) (lo := 0) (n := d.toNat) (fun k => .int (polyZ ns h k)) (fun k hk => by
    obtain ⟨i0, i1⟩ := tab_ix D (p := k) (by omega) (by omega)
    have hx : atI (il ns ++ [PV.int (-(hdZ ns))]) (((k : Int) + h) / (2 * h)) = some (.int (polyZ ns h k)) := by
      rw [atI_nn i0 (by simp; omega)]
      show (il ns ++ [PV.int (-(hdZ ns))])[_]? = _
      rw [show il ns ++ [PV.int (-(hdZ ns))] = il (ns ++ [-(hdZ ns)]) by simp, il_get]
      unfold polyZ
      rw [List.getD_eq_getElem?_getD]
      have : (((k : Int) + h) / (2 * h)).toNat < (ns ++ [-(hdZ ns)]).length := by simp; omega
      rw [List.getElem?_eq_getElem this]
      rfl
    rw [cp_some b_nm]
    simp [xs_nil, xs_cons, x_try, x_skip, x_expr, x_set, x_setO, ow_lst, x_frz, x_unpack, up_some, x_par, x_aug, aug_fr, aug_ii, x_app, x_setI, x_augI, x_setF, sf_oo, x_ite, it_ok, it_exc, it_ite, x_ret, x_retF, rf_lst, x_retO, ro_ow, x_retN, x_raise, x_for, x_while, x_brk, x_cont, tr_next, tr_ret, tr_exc, hk_t, hk_f, hd_ret, tr_ite, bd_next, bd_ret, bd_brk, bd_cont, bd_exc, bd_stuck, bd_ite, fin_ite, fin_next, fin_ret, fin_exc, bnd_ok, bnd_exc, bnd_stuck, bnd_ite, sb_ok, sb_exc, sb_stuck, sb_ite, truR_bl, truR_int, isB_bl, cop_lt, cop_le, cop_gt, cop_ge, cop_eqi, cop_nei, b_add, b_sub, b_band, b_bor, b_bxor, e_var, t_var, vr_fr, tp_fr, tp_ow, ng_int, e_int, e_str, e_bl, e_non, e_glob, e_bin, e_cmp, e_neg, e_not, e_and, e_or, e_ite, e_chain, e_isN, e_notN, e_isIn, e_idx, e_slc, e_fld, e_call, e_meth, e_mk, e_blt, e_isI, e_isX, e_brw, e_comp, b_nm, b_tt, b_tl, sn_nil, sn_cons, evEs, evTs, evAnd, evOr, topOf, sl, env0, isOmit, freeB, wipe', frz, frzS, bltP, MP.items?, lits?, i_r1, i_r2, i_seq, i_enum, i_rev, i_zip, seq_lst, seq_lsk, seq_tup, enum_lst, enum_lsk, rev_lst, rev_tup, zip_lst, zip_tup, e_list, e_tuple, is_ii, is_ib, is_ll, sl_il, partP, b_mul (mulB_l (i := 2) (by decide) (by decide)), b_div (divB_s (j := 2 * h) (by omega) (by omega)), idxP, hx])
  simp [r_table_poly, runF_eq, c_table_poly, xs_nil, xs_cons, x_try, x_skip, x_expr, x_set, x_setO, ow_lst, x_frz, x_unpack, up_some, x_par, x_aug, aug_fr, aug_ii, x_app, x_setI, x_augI, x_setF, sf_oo, x_ite, it_ok, it_exc, it_ite, x_ret, x_retF, rf_lst, x_retO, ro_ow, x_retN, x_raise, x_for, x_while, x_brk, x_cont, tr_next, tr_ret, tr_exc, hk_t, hk_f, hd_ret, tr_ite, bd_next, bd_ret, bd_brk, bd_cont, bd_exc, bd_stuck, bd_ite, fin_ite, fin_next, fin_ret, fin_exc, bnd_ok, bnd_exc, bnd_stuck, bnd_ite, sb_ok, sb_exc, sb_stuck, sb_ite, truR_bl, truR_int, isB_bl, cop_lt, cop_le, cop_gt, cop_ge, cop_eqi, cop_nei, b_add, b_sub, b_band, b_bor, b_bxor, e_var, t_var, vr_fr, tp_fr, tp_ow, ng_int, e_int, e_str, e_bl, e_non, e_glob, e_bin, e_cmp, e_neg, e_not, e_and, e_or, e_ite, e_chain, e_isN, e_notN, e_isIn, e_idx, e_slc, e_fld, e_call, e_meth, e_mk, e_blt, e_isI, e_isX, e_brw, e_comp, b_nm, b_tt, b_tl, sn_nil, sn_cons, evEs, evTs, evAnd, evOr, topOf, sl, env0, isOmit, freeB, wipe', frz, frzS, bltP, MP.items?, lits?, i_r1, i_r2, i_seq, i_enum, i_rev, i_zip, seq_lst, seq_lsk, seq_tup, enum_lst, enum_lsk, rev_lst, rev_tup, zip_lst, zip_tup, e_list, e_tuple, is_ii, is_ib, is_ll, sl_il, partP, hl, b_mul (mulB_l (i := 2) (by decide) (by decide)), b_div (divB_s (j := 2 * (ns.length : Int)) (by omega) (by omega)), half_of D, idxP, h0, lstR_ok, b_addL (xs := il ns) (ys := [.int (-(hdZ ns))]) (sz_le (by simp; omega)), r1_ok (n := d) (by omega) (by omega), hm]
/-! ### windows -/
theorem cen_win {d s h : Int} (D : DS d s h) (p : Int) (j : Int) (j0 : 0 ≤ j) (j1 : j < 2 * s) : (0 - h ≤ cen (p - 2 * h * j) (2 * d) ∧ cen (p - 2 * h * j) (2 * d) < h) ↔ j = slotZ d h p := by
  have a1 := D.h1; have a2 := D.s1; have a3 := D.d1; have a4 := D.hb; have a5 := D.sb
  unfold slotZ cen
  have hd : 2 * h * (2 * s) = 2 * d := by rw [D.eq, Int.mul_left_comm]
  have hd3 : 2 * h * (2 * s - 1) = 2 * d - 2 * h := by rw [Int.mul_sub, hd, Int.mul_one]
  have w0 := Int.emod_nonneg (p + h) (show 2 * d ≠ 0 by omega)
  have w1 := Int.emod_lt_of_pos (p + h) (show 0 < 2 * d by omega)
  have w2 := Int.emod_add_mul_ediv (p + h) (2 * d)
  generalize (p + h) % (2 * d) = w at *
  generalize (p + h) / (2 * d) = q at *
  have t0 := Int.emod_nonneg w (show 2 * h ≠ 0 by omega)
  have t1 := Int.emod_lt_of_pos w (show 0 < 2 * h by omega)
  have t2 := Int.emod_add_mul_ediv w (2 * h)
  have t3 : 0 ≤ w / (2 * h) := Int.ediv_nonneg w0 (by omega)
  have t4 : w / (2 * h) < 2 * s := (Int.ediv_lt_iff_lt_mul (by omega)).mpr (by rw [Int.mul_comm (2 * s), hd]; exact w1)
  generalize w % (2 * h) = r at *
  generalize w / (2 * h) = t at *
  have e1 : p - 2 * h * j = (2 * h * (t - j) + (r - h)) + 2 * d * q := by rw [Int.mul_sub]; omega
  rw [e1, Int.add_mul_emod_self_left]
  by_cases ej : j = t
  · subst ej
    rw [Int.sub_self, Int.mul_zero, Int.zero_add]
    by_cases hr : r < h
    · have : (r - h) % (2 * d) = r - h + 2 * d := by
        rw [← Int.add_emod_right, Int.emod_eq_of_lt (by omega) (by omega)]
      rw [this]
      constructor
      · intro _; rfl
      · intro _; split <;> omega
    · have : (r - h) % (2 * d) = r - h := Int.emod_eq_of_lt (by omega) (by omega)
      rw [this]
      constructor
      · intro _; rfl
      · intro _; split <;> omega
  · constructor
    · rintro ⟨k1, k2⟩
      exfalso
      by_cases hlt : j < t
      · have b1 : 2 * h * 1 ≤ 2 * h * (t - j) := Int.mul_le_mul_of_nonneg_left (by omega) (by omega)
        have b2 : 2 * h * (t - j) ≤ 2 * h * (2 * s - 1) := Int.mul_le_mul_of_nonneg_left (by omega) (by omega)
        rw [hd3] at b2
        have : (2 * h * (t - j) + (r - h)) % (2 * d) = 2 * h * (t - j) + (r - h) := Int.emod_eq_of_lt (by omega) (by omega)
        rw [this] at k1 k2
        split at k1 <;> omega
      · have b1 : 2 * h * (t - j) ≤ 2 * h * (-1) := Int.mul_le_mul_of_nonneg_left (by omega) (by omega)
        have b2 : 2 * h * (-(2 * s - 1)) ≤ 2 * h * (t - j) := Int.mul_le_mul_of_nonneg_left (by omega) (by omega)
        rw [Int.mul_neg, hd3] at b2
        have : (2 * h * (t - j) + (r - h)) % (2 * d) = 2 * h * (t - j) + (r - h) + 2 * d := by
          rw [← Int.add_emod_right, Int.emod_eq_of_lt (by omega) (by omega)]
        rw [this] at k1 k2
        split at k1 <;> omega
    · intro e
      exact absurd e ej
theorem slotZ_rng {d s h : Int} (D : DS d s h) (p : Int) : 0 ≤ slotZ d h p ∧ slotZ d h p < 2 * s := by
  have a1 := D.h1; have a2 := D.s1; have a3 := D.d1; have a4 := D.hb; have a5 := D.sb
  unfold slotZ
  have w0 := Int.emod_nonneg (p + h) (show 2 * d ≠ 0 by omega)
  have w1 := Int.emod_lt_of_pos (p + h) (show 0 < 2 * d by omega)
  have hd : 2 * h * (2 * s) = 2 * d := by rw [D.eq, Int.mul_left_comm]
  exact ⟨Int.ediv_nonneg w0 (by omega), (Int.ediv_lt_iff_lt_mul (by omega)).mpr (by rw [Int.mul_comm (2 * s), hd]; exact w1)⟩
theorem e_window {d s h : Int} (D : DS d s h) (p : Int) : r__law_window [.int d, .int s, .int p] = .ok (.lst (il [slotZ d h p])) := by
  have a1 := D.h1; have a2 := D.s1; have a3 := D.d1; have a4 := D.hb; have a5 := D.sb
  obtain ⟨z0, z1⟩ := slotZ_rng D p
  obtain ⟨ρ', h1, k, rfl⟩ := forR_range (body := exSs b__law_window_0) (i0 := 5) (lo := 0) (n := (2 * s).toNat) (ρ := [.fr (.int d), .fr (.int s), .fr (.int p), .fr (.int h), .ow [], .un])
    (fun i ρ => ∃ k : MP.Slot, ρ = [.fr (.int d), .fr (.int s), .fr (.int p), .fr (.int h), .ow (il (if slotZ d h p < i then [slotZ d h p] else [])), k]) ⟨.un, by rw [if_neg (by omega)]; rfl⟩ (fun i ρ hi ⟨k, e⟩ => by
      subst e
      have hw := cen_win D p i (by omega) (by omega)
      have hc := e_law_centred (p - 2 * h * i) (2 * d) (by omega)
      have m0 := b_mul (mulB_l (i := 2) (j := d) (by decide) (by decide))
      have m1 := b_mul (mulB_l (i := 2) (j := h) (by decide) (by decide))
      have m2 := b_mul (mulB_l (i := 2 * h) (j := i) (by omega) (by omega))
      by_cases hz : (i : Int) = slotZ d h p
      · obtain ⟨c1, c2⟩ := hw.mpr hz
        refine ⟨[.fr (.int d), .fr (.int s), .fr (.int p), .fr (.int h), .ow [.int i], .fr (.int (0 + i))], .inl ?_, .fr (.int (0 + i)), ?_⟩
        · rw [if_neg (by omega)]
          simp [b__law_window_0, xs_nil, xs_cons, x_try, x_skip, x_expr, x_set, x_setO, ow_lst, x_frz, x_unpack, up_some, x_par, x_aug, aug_fr, aug_ii, x_app, x_setI, x_augI, x_setF, sf_oo, x_ite, it_ok, it_exc, it_ite, x_ret, x_retF, rf_lst, x_retO, ro_ow, x_retN, x_raise, x_for, x_while, x_brk, x_cont, tr_next, tr_ret, tr_exc, hk_t, hk_f, hd_ret, tr_ite, bd_next, bd_ret, bd_brk, bd_cont, bd_exc, bd_stuck, bd_ite, fin_ite, fin_next, fin_ret, fin_exc, bnd_ok, bnd_exc, bnd_stuck, bnd_ite, sb_ok, sb_exc, sb_stuck, sb_ite, truR_bl, truR_int, isB_bl, cop_lt, cop_le, cop_gt, cop_ge, cop_eqi, cop_nei, b_add, b_sub, b_band, b_bor, b_bxor, e_var, t_var, vr_fr, tp_fr, tp_ow, ng_int, e_int, e_str, e_bl, e_non, e_glob, e_bin, e_cmp, e_neg, e_not, e_and, e_or, e_ite, e_chain, e_isN, e_notN, e_isIn, e_idx, e_slc, e_fld, e_call, e_meth, e_mk, e_blt, e_isI, e_isX, e_brw, e_comp, b_nm, b_tt, b_tl, sn_nil, sn_cons, evEs, evTs, evAnd, evOr, topOf, sl, env0, isOmit, freeB, wipe', frz, frzS, bltP, MP.items?, lits?, i_r1, i_r2, i_seq, i_enum, i_rev, i_zip, seq_lst, seq_lsk, seq_tup, enum_lst, enum_lsk, rev_lst, rev_tup, zip_lst, zip_tup, e_list, e_tuple, is_ii, is_ib, is_ll, sl_il, partP, m0, m1, m2, hc, show -h ≤ cen (p - 2 * h * ↑i) (2 * d) by omega, c2, ap_ok]
        · rw [if_pos (by omega), ← hz]
          rfl
      · have hn : ¬ (-h ≤ cen (p - 2 * h * ↑i) (2 * d) ∧ cen (p - 2 * h * ↑i) (2 * d) < h) := fun z => hz (hw.mp ⟨by omega, z.2⟩)
        refine ⟨[.fr (.int d), .fr (.int s), .fr (.int p), .fr (.int h), .ow (il (if slotZ d h p < i then [slotZ d h p] else [])), .fr (.int (0 + i))], .inl ?_, .fr (.int (0 + i)), ?_⟩
        · by_cases c1 : -h ≤ cen (p - 2 * h * ↑i) (2 * d)
          · have c2 : ¬ cen (p - 2 * h * ↑i) (2 * d) < h := fun z => hn ⟨c1, z⟩
            simp [b__law_window_0, xs_nil, xs_cons, x_try, x_skip, x_expr, x_set, x_setO, ow_lst, x_frz, x_unpack, up_some, x_par, x_aug, aug_fr, aug_ii, x_app, x_setI, x_augI, x_setF, sf_oo, x_ite, it_ok, it_exc, it_ite, x_ret, x_retF, rf_lst, x_retO, ro_ow, x_retN, x_raise, x_for, x_while, x_brk, x_cont, tr_next, tr_ret, tr_exc, hk_t, hk_f, hd_ret, tr_ite, bd_next, bd_ret, bd_brk, bd_cont, bd_exc, bd_stuck, bd_ite, fin_ite, fin_next, fin_ret, fin_exc, bnd_ok, bnd_exc, bnd_stuck, bnd_ite, sb_ok, sb_exc, sb_stuck, sb_ite, truR_bl, truR_int, isB_bl, cop_lt, cop_le, cop_gt, cop_ge, cop_eqi, cop_nei, b_add, b_sub, b_band, b_bor, b_bxor, e_var, t_var, vr_fr, tp_fr, tp_ow, ng_int, e_int, e_str, e_bl, e_non, e_glob, e_bin, e_cmp, e_neg, e_not, e_and, e_or, e_ite, e_chain, e_isN, e_notN, e_isIn, e_idx, e_slc, e_fld, e_call, e_meth, e_mk, e_blt, e_isI, e_isX, e_brw, e_comp, b_nm, b_tt, b_tl, sn_nil, sn_cons, evEs, evTs, evAnd, evOr, topOf, sl, env0, isOmit, freeB, wipe', frz, frzS, bltP, MP.items?, lits?, i_r1, i_r2, i_seq, i_enum, i_rev, i_zip, seq_lst, seq_lsk, seq_tup, enum_lst, enum_lsk, rev_lst, rev_tup, zip_lst, zip_tup, e_list, e_tuple, is_ii, is_ib, is_ll, sl_il, partP, m0, m1, m2, hc, c1, c2]
          · simp [b__law_window_0, xs_nil, xs_cons, x_try, x_skip, x_expr, x_set, x_setO, ow_lst, x_frz, x_unpack, up_some, x_par, x_aug, aug_fr, aug_ii, x_app, x_setI, x_augI, x_setF, sf_oo, x_ite, it_ok, it_exc, it_ite, x_ret, x_retF, rf_lst, x_retO, ro_ow, x_retN, x_raise, x_for, x_while, x_brk, x_cont, tr_next, tr_ret, tr_exc, hk_t, hk_f, hd_ret, tr_ite, bd_next, bd_ret, bd_brk, bd_cont, bd_exc, bd_stuck, bd_ite, fin_ite, fin_next, fin_ret, fin_exc, bnd_ok, bnd_exc, bnd_stuck, bnd_ite, sb_ok, sb_exc, sb_stuck, sb_ite, truR_bl, truR_int, isB_bl, cop_lt, cop_le, cop_gt, cop_ge, cop_eqi, cop_nei, b_add, b_sub, b_band, b_bor, b_bxor, e_var, t_var, vr_fr, tp_fr, tp_ow, ng_int, e_int, e_str, e_bl, e_non, e_glob, e_bin, e_cmp, e_neg, e_not, e_and, e_or, e_ite, e_chain, e_isN, e_notN, e_isIn, e_idx, e_slc, e_fld, e_call, e_meth, e_mk, e_blt, e_isI, e_isX, e_brw, e_comp, b_nm, b_tt, b_tl, sn_nil, sn_cons, evEs, evTs, evAnd, evOr, topOf, sl, env0, isOmit, freeB, wipe', frz, frzS, bltP, MP.items?, lits?, i_r1, i_r2, i_seq, i_enum, i_rev, i_zip, seq_lst, seq_lsk, seq_tup, enum_lst, enum_lsk, rev_lst, rev_tup, zip_lst, zip_tup, e_list, e_tuple, is_ii, is_ib, is_ll, sl_il, partP, m0, m1, m2, hc, c1]
        · by_cases h2 : slotZ d h p < i
          · rw [if_pos h2, if_pos (by omega)]
          · rw [if_neg h2, if_neg (by omega)])
  rw [if_pos (by omega)] at h1
  simp [r__law_window, runF_eq, c__law_window, xs_nil, xs_cons, x_try, x_skip, x_expr, x_set, x_setO, ow_lst, x_frz, x_unpack, up_some, x_par, x_aug, aug_fr, aug_ii, x_app, x_setI, x_augI, x_setF, sf_oo, x_ite, it_ok, it_exc, it_ite, x_ret, x_retF, rf_lst, x_retO, ro_ow, x_retN, x_raise, x_for, x_while, x_brk, x_cont, tr_next, tr_ret, tr_exc, hk_t, hk_f, hd_ret, tr_ite, bd_next, bd_ret, bd_brk, bd_cont, bd_exc, bd_stuck, bd_ite, fin_ite, fin_next, fin_ret, fin_exc, bnd_ok, bnd_exc, bnd_stuck, bnd_ite, sb_ok, sb_exc, sb_stuck, sb_ite, truR_bl, truR_int, isB_bl, cop_lt, cop_le, cop_gt, cop_ge, cop_eqi, cop_nei, b_add, b_sub, b_band, b_bor, b_bxor, e_var, t_var, vr_fr, tp_fr, tp_ow, ng_int, e_int, e_str, e_bl, e_non, e_glob, e_bin, e_cmp, e_neg, e_not, e_and, e_or, e_ite, e_chain, e_isN, e_notN, e_isIn, e_idx, e_slc, e_fld, e_call, e_meth, e_mk, e_blt, e_isI, e_isX, e_brw, e_comp, b_nm, b_tt, b_tl, sn_nil, sn_cons, evEs, evTs, evAnd, evOr, topOf, sl, env0, isOmit, freeB, wipe', frz, frzS, bltP, MP.items?, lits?, i_r1, i_r2, i_seq, i_enum, i_rev, i_zip, seq_lst, seq_lsk, seq_tup, enum_lst, enum_lsk, rev_lst, rev_tup, zip_lst, zip_tup, e_list, e_tuple, is_ii, is_ib, is_ll, sl_il, partP, b_mul (mulB_l (i := 2) (by decide) (by decide)), b_div (divB_s (j := 2 * s) (by omega) (by omega)), half_of D, lstR_ok, r1_ok (n := 2 * s) (by omega) (by omega), h1]
/-! ### messages, refusals -/
theorem e_slot_message {m s : Int} (i : Int) (cm : r_check_modulus_slots [.int m, .int s] = .ok .non) (hm : 1 ≤ m) (hs : 1 ≤ s) (hs2 : s ≤ 1000000) (hq : m / (2 * s) ≤ 1000000) : r_slot_message [.int m, .int s, .int i] = .ok (.int (cen (i * (m / (2 * s))) m)) := by
  have h0 : 0 ≤ m / (2 * s) := Int.ediv_nonneg (by omega) (by omega)
  simp [r_slot_message, runF_eq, c_slot_message, xs_nil, xs_cons, x_try, x_skip, x_expr, x_set, x_setO, ow_lst, x_frz, x_unpack, up_some, x_par, x_aug, aug_fr, aug_ii, x_app, x_setI, x_augI, x_setF, sf_oo, x_ite, it_ok, it_exc, it_ite, x_ret, x_retF, rf_lst, x_retO, ro_ow, x_retN, x_raise, x_for, x_while, x_brk, x_cont, tr_next, tr_ret, tr_exc, hk_t, hk_f, hd_ret, tr_ite, bd_next, bd_ret, bd_brk, bd_cont, bd_exc, bd_stuck, bd_ite, fin_ite, fin_next, fin_ret, fin_exc, bnd_ok, bnd_exc, bnd_stuck, bnd_ite, sb_ok, sb_exc, sb_stuck, sb_ite, truR_bl, truR_int, isB_bl, cop_lt, cop_le, cop_gt, cop_ge, cop_eqi, cop_nei, b_add, b_sub, b_band, b_bor, b_bxor, e_var, t_var, vr_fr, tp_fr, tp_ow, ng_int, e_int, e_str, e_bl, e_non, e_glob, e_bin, e_cmp, e_neg, e_not, e_and, e_or, e_ite, e_chain, e_isN, e_notN, e_isIn, e_idx, e_slc, e_fld, e_call, e_meth, e_mk, e_blt, e_isI, e_isX, e_brw, e_comp, b_nm, b_tt, b_tl, sn_nil, sn_cons, evEs, evTs, evAnd, evOr, topOf, sl, env0, isOmit, freeB, wipe', frz, frzS, bltP, MP.items?, lits?, i_r1, i_r2, i_seq, i_enum, i_rev, i_zip, seq_lst, seq_lsk, seq_tup, enum_lst, enum_lsk, rev_lst, rev_tup, zip_lst, zip_tup, e_list, e_tuple, is_ii, is_ib, is_ll, sl_il, partP, cm, b_mul (mulB_l (i := 2) (by decide) (by decide)), b_div (divB_s (i := m) (j := 2 * s) (by omega) (by omega)), b_mul (mulB_r (i := i) (j := m / (2 * s)) (by omega) (by omega)), e_centred _ _ hm, cen_eq _ _ (show 0 < m by omega)]
theorem x_slot_message {m s i : Int} (cm : r_check_modulus_slots [.int m, .int s] = .exc 1) : r_slot_message [.int m, .int s, .int i] = .exc 1 := by
  simp [r_slot_message, runF_eq, c_slot_message, xs_nil, xs_cons, x_try, x_skip, x_expr, x_set, x_setO, ow_lst, x_frz, x_unpack, up_some, x_par, x_aug, aug_fr, aug_ii, x_app, x_setI, x_augI, x_setF, sf_oo, x_ite, it_ok, it_exc, it_ite, x_ret, x_retF, rf_lst, x_retO, ro_ow, x_retN, x_raise, x_for, x_while, x_brk, x_cont, tr_next, tr_ret, tr_exc, hk_t, hk_f, hd_ret, tr_ite, bd_next, bd_ret, bd_brk, bd_cont, bd_exc, bd_stuck, bd_ite, fin_ite, fin_next, fin_ret, fin_exc, bnd_ok, bnd_exc, bnd_stuck, bnd_ite, sb_ok, sb_exc, sb_stuck, sb_ite, truR_bl, truR_int, isB_bl, cop_lt, cop_le, cop_gt, cop_ge, cop_eqi, cop_nei, b_add, b_sub, b_band, b_bor, b_bxor, e_var, t_var, vr_fr, tp_fr, tp_ow, ng_int, e_int, e_str, e_bl, e_non, e_glob, e_bin, e_cmp, e_neg, e_not, e_and, e_or, e_ite, e_chain, e_isN, e_notN, e_isIn, e_idx, e_slc, e_fld, e_call, e_meth, e_mk, e_blt, e_isI, e_isX, e_brw, e_comp, b_nm, b_tt, b_tl, sn_nil, sn_cons, evEs, evTs, evAnd, evOr, topOf, sl, env0, isOmit, freeB, wipe', frz, frzS, bltP, MP.items?, lits?, i_r1, i_r2, i_seq, i_enum, i_rev, i_zip, seq_lst, seq_lsk, seq_tup, enum_lst, enum_lsk, rev_lst, rev_tup, zip_lst, zip_tup, e_list, e_tuple, is_ii, is_ib, is_ll, sl_il, partP, cm]
theorem x_slot_of {d s i : Int} (cm : r_check_slots [.int d, .int s] = .exc 1) : r_slot_of [.int d, .int s, .int i] = .exc 1 := by
  simp [r_slot_of, runF_eq, c_slot_of, xs_nil, xs_cons, x_try, x_skip, x_expr, x_set, x_setO, ow_lst, x_frz, x_unpack, up_some, x_par, x_aug, aug_fr, aug_ii, x_app, x_setI, x_augI, x_setF, sf_oo, x_ite, it_ok, it_exc, it_ite, x_ret, x_retF, rf_lst, x_retO, ro_ow, x_retN, x_raise, x_for, x_while, x_brk, x_cont, tr_next, tr_ret, tr_exc, hk_t, hk_f, hd_ret, tr_ite, bd_next, bd_ret, bd_brk, bd_cont, bd_exc, bd_stuck, bd_ite, fin_ite, fin_next, fin_ret, fin_exc, bnd_ok, bnd_exc, bnd_stuck, bnd_ite, sb_ok, sb_exc, sb_stuck, sb_ite, truR_bl, truR_int, isB_bl, cop_lt, cop_le, cop_gt, cop_ge, cop_eqi, cop_nei, b_add, b_sub, b_band, b_bor, b_bxor, e_var, t_var, vr_fr, tp_fr, tp_ow, ng_int, e_int, e_str, e_bl, e_non, e_glob, e_bin, e_cmp, e_neg, e_not, e_and, e_or, e_ite, e_chain, e_isN, e_notN, e_isIn, e_idx, e_slc, e_fld, e_call, e_meth, e_mk, e_blt, e_isI, e_isX, e_brw, e_comp, b_nm, b_tt, b_tl, sn_nil, sn_cons, evEs, evTs, evAnd, evOr, topOf, sl, env0, isOmit, freeB, wipe', frz, frzS, bltP, MP.items?, lits?, i_r1, i_r2, i_seq, i_enum, i_rev, i_zip, seq_lst, seq_lsk, seq_tup, enum_lst, enum_lsk, rev_lst, rev_tup, zip_lst, zip_tup, e_list, e_tuple, is_ii, is_ib, is_ll, sl_il, partP, cm]
theorem x_table_poly {d : Int} {xs : List PV} (cm : r_check_slots [.int d, .int xs.length] = .exc 1) : r_table_poly [.int d, .lst xs] = .exc 1 := by
  simp [r_table_poly, runF_eq, c_table_poly, xs_nil, xs_cons, x_try, x_skip, x_expr, x_set, x_setO, ow_lst, x_frz, x_unpack, up_some, x_par, x_aug, aug_fr, aug_ii, x_app, x_setI, x_augI, x_setF, sf_oo, x_ite, it_ok, it_exc, it_ite, x_ret, x_retF, rf_lst, x_retO, ro_ow, x_retN, x_raise, x_for, x_while, x_brk, x_cont, tr_next, tr_ret, tr_exc, hk_t, hk_f, hd_ret, tr_ite, bd_next, bd_ret, bd_brk, bd_cont, bd_exc, bd_stuck, bd_ite, fin_ite, fin_next, fin_ret, fin_exc, bnd_ok, bnd_exc, bnd_stuck, bnd_ite, sb_ok, sb_exc, sb_stuck, sb_ite, truR_bl, truR_int, isB_bl, cop_lt, cop_le, cop_gt, cop_ge, cop_eqi, cop_nei, b_add, b_sub, b_band, b_bor, b_bxor, e_var, t_var, vr_fr, tp_fr, tp_ow, ng_int, e_int, e_str, e_bl, e_non, e_glob, e_bin, e_cmp, e_neg, e_not, e_and, e_or, e_ite, e_chain, e_isN, e_notN, e_isIn, e_idx, e_slc, e_fld, e_call, e_meth, e_mk, e_blt, e_isI, e_isX, e_brw, e_comp, b_nm, b_tt, b_tl, sn_nil, sn_cons, evEs, evTs, evAnd, evOr, topOf, sl, env0, isOmit, freeB, wipe', frz, frzS, bltP, MP.items?, lits?, i_r1, i_r2, i_seq, i_enum, i_rev, i_zip, seq_lst, seq_lsk, seq_tup, enum_lst, enum_lsk, rev_lst, rev_tup, zip_lst, zip_tup, e_list, e_tuple, is_ii, is_ib, is_ll, sl_il, partP, cm]
theorem lk1 : [(0, false), (1, true), (2, false)].lookup 1 = some true := nr rfl
theorem lk2 : [(0, true), (1, true), (2, true)].lookup 1 = some true := nr rfl
theorem lk3 : [(0, false), (1, false), (2, true)].lookup 1 = some false := nr rfl
theorem e_ref0 {m d s : Int} (h : r_slot_message [.int m, .int s, .int 1] = .exc 1) : r__law_refuses [.int 0, .int m, .int d, .int s] = .ok (.bl true) := by
  simp [r__law_refuses, runF_eq, c__law_refuses, xs_nil, xs_cons, x_try, x_skip, x_expr, x_set, x_setO, ow_lst, x_frz, x_unpack, up_some, x_par, x_aug, aug_fr, aug_ii, x_app, x_setI, x_augI, x_setF, sf_oo, x_ite, it_ok, it_exc, it_ite, x_ret, x_retF, rf_lst, x_retO, ro_ow, x_retN, x_raise, x_for, x_while, x_brk, x_cont, tr_next, tr_ret, tr_exc, hk_t, hk_f, hd_ret, tr_ite, bd_next, bd_ret, bd_brk, bd_cont, bd_exc, bd_stuck, bd_ite, fin_ite, fin_next, fin_ret, fin_exc, bnd_ok, bnd_exc, bnd_stuck, bnd_ite, sb_ok, sb_exc, sb_stuck, sb_ite, truR_bl, truR_int, isB_bl, cop_lt, cop_le, cop_gt, cop_ge, cop_eqi, cop_nei, b_add, b_sub, b_band, b_bor, b_bxor, e_var, t_var, vr_fr, tp_fr, tp_ow, ng_int, e_int, e_str, e_bl, e_non, e_glob, e_bin, e_cmp, e_neg, e_not, e_and, e_or, e_ite, e_chain, e_isN, e_notN, e_isIn, e_idx, e_slc, e_fld, e_call, e_meth, e_mk, e_blt, e_isI, e_isX, e_brw, e_comp, b_nm, b_tt, b_tl, sn_nil, sn_cons, evEs, evTs, evAnd, evOr, topOf, sl, env0, isOmit, freeB, wipe', frz, frzS, bltP, MP.items?, lits?, i_r1, i_r2, i_seq, i_enum, i_rev, i_zip, seq_lst, seq_lsk, seq_tup, enum_lst, enum_lsk, rev_lst, rev_tup, zip_lst, zip_tup, e_list, e_tuple, is_ii, is_ib, is_ll, sl_il, partP, h, lk1, ex_ex lk2, ex_ex lk3]
theorem e_ref1 {m d s : Int} (h : r_slot_of [.int d, .int s, .int 1] = .exc 1) : r__law_refuses [.int 1, .int m, .int d, .int s] = .ok (.bl true) := by
  simp [r__law_refuses, runF_eq, c__law_refuses, xs_nil, xs_cons, x_try, x_skip, x_expr, x_set, x_setO, ow_lst, x_frz, x_unpack, up_some, x_par, x_aug, aug_fr, aug_ii, x_app, x_setI, x_augI, x_setF, sf_oo, x_ite, it_ok, it_exc, it_ite, x_ret, x_retF, rf_lst, x_retO, ro_ow, x_retN, x_raise, x_for, x_while, x_brk, x_cont, tr_next, tr_ret, tr_exc, hk_t, hk_f, hd_ret, tr_ite, bd_next, bd_ret, bd_brk, bd_cont, bd_exc, bd_stuck, bd_ite, fin_ite, fin_next, fin_ret, fin_exc, bnd_ok, bnd_exc, bnd_stuck, bnd_ite, sb_ok, sb_exc, sb_stuck, sb_ite, truR_bl, truR_int, isB_bl, cop_lt, cop_le, cop_gt, cop_ge, cop_eqi, cop_nei, b_add, b_sub, b_band, b_bor, b_bxor, e_var, t_var, vr_fr, tp_fr, tp_ow, ng_int, e_int, e_str, e_bl, e_non, e_glob, e_bin, e_cmp, e_neg, e_not, e_and, e_or, e_ite, e_chain, e_isN, e_notN, e_isIn, e_idx, e_slc, e_fld, e_call, e_meth, e_mk, e_blt, e_isI, e_isX, e_brw, e_comp, b_nm, b_tt, b_tl, sn_nil, sn_cons, evEs, evTs, evAnd, evOr, topOf, sl, env0, isOmit, freeB, wipe', frz, frzS, bltP, MP.items?, lits?, i_r1, i_r2, i_seq, i_enum, i_rev, i_zip, seq_lst, seq_lsk, seq_tup, enum_lst, enum_lsk, rev_lst, rev_tup, zip_lst, zip_tup, e_list, e_tuple, is_ii, is_ib, is_ll, sl_il, partP, h, lk1, ex_ex lk2, ex_ex lk3]
theorem e_ref2 {m d : Int} {s : Int} (hs : -4611686018427387904 ≤ s) (hs2 : s ≤ 1000000) (h : r_table_poly [.int d, .lst (List.replicate s.toNat (PV.int 3))] = .exc 1) : r__law_refuses [.int 2, .int m, .int d, .int s] = .ok (.bl true) := by
  simp [r__law_refuses, runF_eq, c__law_refuses, xs_nil, xs_cons, x_try, x_skip, x_expr, x_set, x_setO, ow_lst, x_frz, x_unpack, up_some, x_par, x_aug, aug_fr, aug_ii, x_app, x_setI, x_augI, x_setF, sf_oo, x_ite, it_ok, it_exc, it_ite, x_ret, x_retF, rf_lst, x_retO, ro_ow, x_retN, x_raise, x_for, x_while, x_brk, x_cont, tr_next, tr_ret, tr_exc, hk_t, hk_f, hd_ret, tr_ite, bd_next, bd_ret, bd_brk, bd_cont, bd_exc, bd_stuck, bd_ite, fin_ite, fin_next, fin_ret, fin_exc, bnd_ok, bnd_exc, bnd_stuck, bnd_ite, sb_ok, sb_exc, sb_stuck, sb_ite, truR_bl, truR_int, isB_bl, cop_lt, cop_le, cop_gt, cop_ge, cop_eqi, cop_nei, b_add, b_sub, b_band, b_bor, b_bxor, e_var, t_var, vr_fr, tp_fr, tp_ow, ng_int, e_int, e_str, e_bl, e_non, e_glob, e_bin, e_cmp, e_neg, e_not, e_and, e_or, e_ite, e_chain, e_isN, e_notN, e_isIn, e_idx, e_slc, e_fld, e_call, e_meth, e_mk, e_blt, e_isI, e_isX, e_brw, e_comp, b_nm, b_tt, b_tl, sn_nil, sn_cons, evEs, evTs, evAnd, evOr, topOf, sl, env0, isOmit, freeB, wipe', frz, frzS, bltP, MP.items?, lits?, i_r1, i_r2, i_seq, i_enum, i_rev, i_zip, seq_lst, seq_lsk, seq_tup, enum_lst, enum_lsk, rev_lst, rev_tup, zip_lst, zip_tup, e_list, e_tuple, is_ii, is_ib, is_ll, sl_il, partP, h, lk1, ex_ex lk2, ex_ex lk3, lstR_ok, b_mulL (xs := [.int 3]) (k := s) (i62_of hs (by omega)) (sz_le (by simp; omega))]
theorem e_isint (v : Int) : r__law_is_integer [.int v] = .ok (.bl true) := by
  simp [r__law_is_integer, runF_eq, c__law_is_integer, xs_nil, xs_cons, x_try, x_skip, x_expr, x_set, x_setO, ow_lst, x_frz, x_unpack, up_some, x_par, x_aug, aug_fr, aug_ii, x_app, x_setI, x_augI, x_setF, sf_oo, x_ite, it_ok, it_exc, it_ite, x_ret, x_retF, rf_lst, x_retO, ro_ow, x_retN, x_raise, x_for, x_while, x_brk, x_cont, tr_next, tr_ret, tr_exc, hk_t, hk_f, hd_ret, tr_ite, bd_next, bd_ret, bd_brk, bd_cont, bd_exc, bd_stuck, bd_ite, fin_ite, fin_next, fin_ret, fin_exc, bnd_ok, bnd_exc, bnd_stuck, bnd_ite, sb_ok, sb_exc, sb_stuck, sb_ite, truR_bl, truR_int, isB_bl, cop_lt, cop_le, cop_gt, cop_ge, cop_eqi, cop_nei, b_add, b_sub, b_band, b_bor, b_bxor, e_var, t_var, vr_fr, tp_fr, tp_ow, ng_int, e_int, e_str, e_bl, e_non, e_glob, e_bin, e_cmp, e_neg, e_not, e_and, e_or, e_ite, e_chain, e_isN, e_notN, e_isIn, e_idx, e_slc, e_fld, e_call, e_meth, e_mk, e_blt, e_isI, e_isX, e_brw, e_comp, b_nm, b_tt, b_tl, sn_nil, sn_cons, evEs, evTs, evAnd, evOr, topOf, sl, env0, isOmit, freeB, wipe', frz, frzS, bltP, MP.items?, lits?, i_r1, i_r2, i_seq, i_enum, i_rev, i_zip, seq_lst, seq_lsk, seq_tup, enum_lst, enum_lsk, rev_lst, rev_tup, zip_lst, zip_tup, e_list, e_tuple, is_ii, is_ib, is_ll, sl_il, partP]
theorem isI_bb : True := trivial
/-! ### the law -/
theorem l_slots (sc : MP.Slot) (cell many : Int) (b n : Nat) (hb : b ≤ 9) (t : List MP.Slot) : ∃ a k5, a ≤ b ∧ forR (exSs b_law_0) (.nm 5) (rangeP 0 n) (sc :: .fr (.int cell) :: .fr (.int ((2 ^ (b + 1) : Nat) : Int)) :: .fr (.int many) :: .fr (.int 1) :: .un :: t) = .next (sc :: .fr (.int cell) :: .fr (.int ((2 ^ (b + 1) : Nat) : Int)) :: .fr (.int many) :: .fr (.int ((2 ^ a : Nat) : Int)) :: k5 :: t) := by
  obtain ⟨ρ', h1, a, k5, ha, rfl⟩ := forR_range (body := exSs b_law_0) (i0 := 5) (lo := 0) (n := n) (ρ := sc :: .fr (.int cell) :: .fr (.int ((2 ^ (b + 1) : Nat) : Int)) :: .fr (.int many) :: .fr (.int 1) :: .un :: t)
    (fun i ρ => ∃ (a : Nat) (k5 : MP.Slot), a ≤ b ∧ ρ = sc :: .fr (.int cell) :: .fr (.int ((2 ^ (b + 1) : Nat) : Int)) :: .fr (.int many) :: .fr (.int ((2 ^ a : Nat) : Int)) :: k5 :: t) ⟨0, .un, Nat.zero_le _, rfl⟩ (fun i ρ hi ⟨a, k5, ha, e⟩ => by
      subst e
      have pb : 2 ^ (b + 1) ≤ 2 ^ 10 := Nat.pow_le_pow_right (by decide) (by omega)
      by_cases h : a + 2 ≤ b + 1
      · have hle : 4 * 2 ^ a ≤ 2 ^ (b + 1) := by
          have := Nat.pow_le_pow_right (show 0 < 2 by decide) h
          rw [Nat.pow_add] at this
          omega
        refine ⟨_, .inl ?_, a + 1, .fr (.int (0 + i)), by omega, rfl⟩
        generalize hd : ((2 ^ (b + 1) : Nat) : Int) = d
        rw [show ((2 ^ (a + 1) : Nat) : Int) = 2 * ((2 ^ a : Nat) : Int) by rw [Nat.pow_succ]; omega]
        generalize hs : ((2 ^ a : Nat) : Int) = s
        have : 4 * s ≤ d := by omega
        simp [b_law_0, xs_nil, xs_cons, x_try, x_skip, x_expr, x_set, x_setO, ow_lst, x_frz, x_unpack, up_some, x_par, x_aug, aug_fr, aug_ii, x_app, x_setI, x_augI, x_setF, sf_oo, x_ite, it_ok, it_exc, it_ite, x_ret, x_retF, rf_lst, x_retO, ro_ow, x_retN, x_raise, x_for, x_while, x_brk, x_cont, tr_next, tr_ret, tr_exc, hk_t, hk_f, hd_ret, tr_ite, bd_next, bd_ret, bd_brk, bd_cont, bd_exc, bd_stuck, bd_ite, fin_ite, fin_next, fin_ret, fin_exc, bnd_ok, bnd_exc, bnd_stuck, bnd_ite, sb_ok, sb_exc, sb_stuck, sb_ite, truR_bl, truR_int, isB_bl, cop_lt, cop_le, cop_gt, cop_ge, cop_eqi, cop_nei, b_add, b_sub, b_band, b_bor, b_bxor, e_var, t_var, vr_fr, tp_fr, tp_ow, ng_int, e_int, e_str, e_bl, e_non, e_glob, e_bin, e_cmp, e_neg, e_not, e_and, e_or, e_ite, e_chain, e_isN, e_notN, e_isIn, e_idx, e_slc, e_fld, e_call, e_meth, e_mk, e_blt, e_isI, e_isX, e_brw, e_comp, b_nm, b_tt, b_tl, sn_nil, sn_cons, evEs, evTs, evAnd, evOr, topOf, sl, env0, isOmit, freeB, wipe', frz, frzS, bltP, MP.items?, lits?, i_r1, i_r2, i_seq, i_enum, i_rev, i_zip, seq_lst, seq_lsk, seq_tup, enum_lst, enum_lsk, rev_lst, rev_tup, zip_lst, zip_tup, e_list, e_tuple, is_ii, is_ib, is_ll, sl_il, partP, b_mul (mulB_l (i := 4) (by decide) (by decide)), b_mul (mulB_l (i := 2) (by decide) (by decide)), this]
      · have hgt : ¬ 4 * 2 ^ a ≤ 2 ^ (b + 1) := fun z => by
          have : 2 ^ (b + 1) < 2 ^ (a + 2) := Nat.pow_lt_pow_right (by decide) (by omega)
          rw [Nat.pow_add 2 a 2] at this
          omega
        refine ⟨_, .inl ?_, a, .fr (.int (0 + i)), ha, rfl⟩
        generalize hd : ((2 ^ (b + 1) : Nat) : Int) = d
        generalize hs : ((2 ^ a : Nat) : Int) = s
        have : ¬ 4 * s ≤ d := by omega
        simp [b_law_0, xs_nil, xs_cons, x_try, x_skip, x_expr, x_set, x_setO, ow_lst, x_frz, x_unpack, up_some, x_par, x_aug, aug_fr, aug_ii, x_app, x_setI, x_augI, x_setF, sf_oo, x_ite, it_ok, it_exc, it_ite, x_ret, x_retF, rf_lst, x_retO, ro_ow, x_retN, x_raise, x_for, x_while, x_brk, x_cont, tr_next, tr_ret, tr_exc, hk_t, hk_f, hd_ret, tr_ite, bd_next, bd_ret, bd_brk, bd_cont, bd_exc, bd_stuck, bd_ite, fin_ite, fin_next, fin_ret, fin_exc, bnd_ok, bnd_exc, bnd_stuck, bnd_ite, sb_ok, sb_exc, sb_stuck, sb_ite, truR_bl, truR_int, isB_bl, cop_lt, cop_le, cop_gt, cop_ge, cop_eqi, cop_nei, b_add, b_sub, b_band, b_bor, b_bxor, e_var, t_var, vr_fr, tp_fr, tp_ow, ng_int, e_int, e_str, e_bl, e_non, e_glob, e_bin, e_cmp, e_neg, e_not, e_and, e_or, e_ite, e_chain, e_isN, e_notN, e_isIn, e_idx, e_slc, e_fld, e_call, e_meth, e_mk, e_blt, e_isI, e_isX, e_brw, e_comp, b_nm, b_tt, b_tl, sn_nil, sn_cons, evEs, evTs, evAnd, evOr, topOf, sl, env0, isOmit, freeB, wipe', frz, frzS, bltP, MP.items?, lits?, i_r1, i_r2, i_seq, i_enum, i_rev, i_zip, seq_lst, seq_lsk, seq_tup, enum_lst, enum_lsk, rev_lst, rev_tup, zip_lst, zip_tup, e_list, e_tuple, is_ii, is_ib, is_ll, sl_il, partP, b_mul (mulB_l (i := 4) (by decide) (by decide)), this])
  exact ⟨a, k5, ha, h1⟩
theorem l_values (e : List MP.Slot → MP.Slot → List MP.Slot) : True := trivial
theorem l_val (s0 s1 s2 s3 s4 s5 s6 s7 s8 s9 : MP.Slot) (t : List MP.Slot) (ns : List Int) : ∃ k9, forR (exSs b_law_1) (.nm 9) (il ns) (s0 :: s1 :: s2 :: s3 :: s4 :: s5 :: s6 :: s7 :: s8 :: s9 :: t) = .next (s0 :: s1 :: s2 :: s3 :: s4 :: s5 :: s6 :: s7 :: s8 :: k9 :: t) := by
  obtain ⟨ρ', h1, k9, rfl⟩ := forR_all (body := exSs b_law_1) (tg := .nm 9) (xs := il ns) (ρ := s0 :: s1 :: s2 :: s3 :: s4 :: s5 :: s6 :: s7 :: s8 :: s9 :: t)
    (fun i ρ => ∃ k9, ρ = s0 :: s1 :: s2 :: s3 :: s4 :: s5 :: s6 :: s7 :: s8 :: k9 :: t) ⟨s9, rfl⟩ (fun i x ρ hx ⟨k9, e⟩ => by
      subst e
      rw [il_get] at hx
      obtain ⟨v, _, rfl⟩ := Option.map_eq_some_iff.mp hx
      exact ⟨_, _, rfl, .inl (by simp [b_law_1, xs_nil, xs_cons, x_try, x_skip, x_expr, x_set, x_setO, ow_lst, x_frz, x_unpack, up_some, x_par, x_aug, aug_fr, aug_ii, x_app, x_setI, x_augI, x_setF, sf_oo, x_ite, it_ok, it_exc, it_ite, x_ret, x_retF, rf_lst, x_retO, ro_ow, x_retN, x_raise, x_for, x_while, x_brk, x_cont, tr_next, tr_ret, tr_exc, hk_t, hk_f, hd_ret, tr_ite, bd_next, bd_ret, bd_brk, bd_cont, bd_exc, bd_stuck, bd_ite, fin_ite, fin_next, fin_ret, fin_exc, bnd_ok, bnd_exc, bnd_stuck, bnd_ite, sb_ok, sb_exc, sb_stuck, sb_ite, truR_bl, truR_int, isB_bl, cop_lt, cop_le, cop_gt, cop_ge, cop_eqi, cop_nei, b_add, b_sub, b_band, b_bor, b_bxor, e_var, t_var, vr_fr, tp_fr, tp_ow, ng_int, e_int, e_str, e_bl, e_non, e_glob, e_bin, e_cmp, e_neg, e_not, e_and, e_or, e_ite, e_chain, e_isN, e_notN, e_isIn, e_idx, e_slc, e_fld, e_call, e_meth, e_mk, e_blt, e_isI, e_isX, e_brw, e_comp, b_nm, b_tt, b_tl, sn_nil, sn_cons, evEs, evTs, evAnd, evOr, topOf, sl, env0, isOmit, freeB, wipe', frz, frzS, bltP, MP.items?, lits?, i_r1, i_r2, i_seq, i_enum, i_rev, i_zip, seq_lst, seq_lsk, seq_tup, enum_lst, enum_lsk, rev_lst, rev_tup, zip_lst, zip_tup, e_list, e_tuple, is_ii, is_ib, is_ll, sl_il, partP, e_isint]), .fr (.int v), rfl⟩)
  exact ⟨k9, h1⟩
theorem poly_lt {vs : List Int} {h : Int} {k t : Nat} {x : Int} (e : ((k : Int) + h) / (2 * h) = t) (hx : vs[t]? = some x) : polyZ vs h k = x := by
  unfold polyZ
  rw [e, List.getD_eq_getElem?_getD, Int.toNat_natCast, List.getElem?_append_left (List.getElem?_eq_some_iff.mp hx).1, hx]
  rfl
theorem poly_eq {vs : List Int} {h : Int} {k : Nat} (e : ((k : Int) + h) / (2 * h) = vs.length) : polyZ vs h k = -(hdZ vs) := by
  unfold polyZ
  rw [e, List.getD_eq_getElem?_getD, Int.toNat_natCast, List.getElem?_append_right (Nat.le_refl _), Nat.sub_self]
  rfl
theorem hd_get {vs : List Int} (h : 1 ≤ vs.length) : vs[0]? = some (hdZ vs) := by
  cases vs with
  | nil => simp at h
  | cons v r => rfl
/-- one place -/
theorem place_ok {d h : Int} {vs : List Int} (D : DS d vs.length h) (p : Int) : ∃ (u : Nat) (w : Nat) (x : Int), p % (2 * d) % d = (u : Int) ∧ u < d.toNat ∧ slotZ d h p % vs.length = (w : Int) ∧ vs[w]? = some x ∧
    (if d ≤ p % (2 * d) then 0 - polyZ vs h u else polyZ vs h u) = (if (vs.length : Int) ≤ slotZ d h p then 0 - x else x) := by
  have a1 := D.h1; have a2 := D.s1; have a3 := D.d1; have a4 := D.hb; have a5 := D.sb; have a6 := D.eq
  have w0 := Int.emod_nonneg p (show 2 * d ≠ 0 by omega)
  have w1 := Int.emod_lt_of_pos p (show 0 < 2 * d by omega)
  have es : slotZ d h p = (p % (2 * d) + h) % (2 * d) / (2 * h) := by
    unfold slotZ
    rw [Int.emod_add_emod]
  rw [es]
  generalize p % (2 * d) = at' at *
  obtain ⟨S, hS⟩ : ∃ S : Nat, S = vs.length := ⟨_, rfl⟩
  have gt : ∀ t : Nat, t < vs.length → ∃ x, vs[t]? = some x := fun t ht => ⟨vs[t], List.getElem?_eq_getElem ht⟩
  by_cases hA : at' < d
  · obtain ⟨u, hu⟩ := Int.eq_ofNat_of_zero_le w0
    have e1 : at' % d = u := by rw [Int.emod_eq_of_lt w0 hA, hu]
    have e2 : (at' + h) % (2 * d) = at' + h := Int.emod_eq_of_lt (by omega) (by omega)
    obtain ⟨t0, t1⟩ := tab_ix D (p := at') w0 hA
    rw [e2]
    obtain ⟨t, ht⟩ := Int.eq_ofNat_of_zero_le t0
    rw [ht] at t1 ⊢
    rw [hu] at ht
    by_cases hlt : t < vs.length
    · obtain ⟨x, hx⟩ := gt t hlt
      refine ⟨u, t, x, e1, by omega, by rw [Int.emod_eq_of_lt (by omega) (by omega)], hx, ?_⟩
      rw [if_neg (by omega), if_neg (by omega), poly_lt ht hx]
    · have : t = vs.length := by omega
      subst this
      refine ⟨u, 0, hdZ vs, e1, by omega, by rw [Int.emod_self]; rfl, hd_get (by omega), ?_⟩
      rw [if_neg (by omega), if_pos (by omega), poly_eq ht]
      omega
  · obtain ⟨u, hu⟩ := Int.eq_ofNat_of_zero_le (show 0 ≤ at' - d by omega)
    have e1 : at' % d = u := by
      rw [← hu, ← Int.sub_emod_right, Int.emod_eq_of_lt (by omega) (by omega)]
    obtain ⟨t0, t1⟩ := tab_ix D (p := u) (by omega) (by omega)
    obtain ⟨t, ht⟩ := Int.eq_ofNat_of_zero_le t0
    rw [ht] at t1
    by_cases hB : (u : Int) + h < d
    · have e2 : (at' + h) % (2 * d) = at' + h := Int.emod_eq_of_lt (by omega) (by omega)
      have e3 : (at' + h) / (2 * h) = t + vs.length := by
        rw [show at' + h = (u + h) + 2 * h * vs.length by omega, Int.add_mul_ediv_left _ _ (show 2 * h ≠ 0 by omega), ht]
      have hlt : t < vs.length := by
        have : ((u : Int) + h) / (2 * h) < vs.length := (Int.ediv_lt_iff_lt_mul (by omega)).mpr (by rw [Int.mul_comm, ← a6]; exact hB)
        rw [ht] at this
        omega
      obtain ⟨x, hx⟩ := gt t hlt
      rw [e2, e3]
      refine ⟨u, t, x, e1, by omega, by rw [Int.add_emod_right, Int.emod_eq_of_lt (by omega) (by omega)], hx, ?_⟩
      rw [if_pos (by omega), if_pos (by omega), poly_lt ht hx]
    · have e2 : (at' + h) % (2 * d) = at' + h - 2 * d := by
        rw [← Int.sub_emod_right, Int.emod_eq_of_lt (by omega) (by omega)]
      have e3 : (at' + h - 2 * d) / (2 * h) = 0 := Int.ediv_eq_zero_of_lt (by omega) (by omega)
      have ht2 : ((u : Int) + h) / (2 * h) = vs.length := by
        have : (vs.length : Int) ≤ ((u : Int) + h) / (2 * h) := (Int.le_ediv_iff_mul_le (by omega)).mpr (by rw [Int.mul_comm, ← a6]; omega)
        rw [ht] at this ⊢
        omega
      rw [e2, e3]
      refine ⟨u, 0, hdZ vs, e1, by omega, by rw [Int.zero_emod]; rfl, hd_get (by omega), ?_⟩
      rw [if_pos (by omega), if_neg (by omega), poly_eq ht2]
      omega
theorem b_place (s0 s1 s3 s5 s7 s9 s10 s11 s13 s14 s15 s16 : MP.Slot) (t : List MP.Slot) (d S p z u w y1 y : Int) (P V : List PV) (hd : 0 < d) (es : r_slot_of [.int d, .int S, .int p] = .ok (.int z)) (ew : r__law_window [.int d, .int S, .int p] = .ok (.lst (il [z])))
    (hu : p % (2 * d) % d = u) (i1 : atI P u = some (.int y1)) (hS : 0 < S) (hw : z % S = w) (i2 : atI V w = some (.int y)) (p5 : (if d ≤ p % (2 * d) then 0 - y1 else y1) = (if S ≤ z then 0 - y else y)) :
    ∃ k13 k14 k15 k16, exSs b_law_2 (s0 :: s1 :: .fr (.int d) :: s3 :: .fr (.int S) :: s5 :: .fr (.lst V) :: s7 :: .fr (.lst P) :: s9 :: s10 :: s11 :: .fr (.int p) :: s13 :: s14 :: s15 :: s16 :: t) =
      .next (s0 :: s1 :: .fr (.int d) :: s3 :: .fr (.int S) :: s5 :: .fr (.lst V) :: s7 :: .fr (.lst P) :: s9 :: s10 :: s11 :: .fr (.int p) :: k13 :: k14 :: k15 :: k16 :: t) := by
  have hne : cop .ne (.lst [.int z]) (.lst [.int z]) = .ok (.bl false) := by
    have := cop_neL [z] [z]
    simpa using this
  have m0 := b_mul (mulB_l (i := 2) (j := d) (by decide) (by decide))
  have m1 := b_mod (i := p) (show 0 < 2 * d by omega)
  have m2 := b_mod (i := p % (2 * d)) hd
  have m3 := b_mod (i := z) hS
  refine ⟨.fr (.int z), .fr (.int (p % (2 * d))), .fr (.int (if d ≤ p % (2 * d) then 0 - y1 else y1)), .fr (.int (if S ≤ z then 0 - y else y)), ?_⟩
  by_cases c1 : d ≤ p % (2 * d) <;> by_cases c2 : S ≤ z
  · rw [if_pos c1, if_pos c2] at p5
    have : y1 = y := by omega
    simp [b_law_2, xs_nil, xs_cons, x_try, x_skip, x_expr, x_set, x_setO, ow_lst, x_frz, x_unpack, up_some, x_par, x_aug, aug_fr, aug_ii, x_app, x_setI, x_augI, x_setF, sf_oo, x_ite, it_ok, it_exc, it_ite, x_ret, x_retF, rf_lst, x_retO, ro_ow, x_retN, x_raise, x_for, x_while, x_brk, x_cont, tr_next, tr_ret, tr_exc, hk_t, hk_f, hd_ret, tr_ite, bd_next, bd_ret, bd_brk, bd_cont, bd_exc, bd_stuck, bd_ite, fin_ite, fin_next, fin_ret, fin_exc, bnd_ok, bnd_exc, bnd_stuck, bnd_ite, sb_ok, sb_exc, sb_stuck, sb_ite, truR_bl, truR_int, isB_bl, cop_lt, cop_le, cop_gt, cop_ge, cop_eqi, cop_nei, b_add, b_sub, b_band, b_bor, b_bxor, e_var, t_var, vr_fr, tp_fr, tp_ow, ng_int, e_int, e_str, e_bl, e_non, e_glob, e_bin, e_cmp, e_neg, e_not, e_and, e_or, e_ite, e_chain, e_isN, e_notN, e_isIn, e_idx, e_slc, e_fld, e_call, e_meth, e_mk, e_blt, e_isI, e_isX, e_brw, e_comp, b_nm, b_tt, b_tl, sn_nil, sn_cons, evEs, evTs, evAnd, evOr, topOf, sl, env0, isOmit, freeB, wipe', frz, frzS, bltP, MP.items?, lits?, i_r1, i_r2, i_seq, i_enum, i_rev, i_zip, seq_lst, seq_lsk, seq_tup, enum_lst, enum_lsk, rev_lst, rev_tup, zip_lst, zip_tup, e_list, e_tuple, is_ii, is_ib, is_ll, sl_il, partP, es, ew, e_isint, hne, m0, m1, m2, m3, hu, hw, idxP, i1, i2, c1, c2, lstR_ok, this]
  · rw [if_pos c1, if_neg c2] at p5
    simp [b_law_2, xs_nil, xs_cons, x_try, x_skip, x_expr, x_set, x_setO, ow_lst, x_frz, x_unpack, up_some, x_par, x_aug, aug_fr, aug_ii, x_app, x_setI, x_augI, x_setF, sf_oo, x_ite, it_ok, it_exc, it_ite, x_ret, x_retF, rf_lst, x_retO, ro_ow, x_retN, x_raise, x_for, x_while, x_brk, x_cont, tr_next, tr_ret, tr_exc, hk_t, hk_f, hd_ret, tr_ite, bd_next, bd_ret, bd_brk, bd_cont, bd_exc, bd_stuck, bd_ite, fin_ite, fin_next, fin_ret, fin_exc, bnd_ok, bnd_exc, bnd_stuck, bnd_ite, sb_ok, sb_exc, sb_stuck, sb_ite, truR_bl, truR_int, isB_bl, cop_lt, cop_le, cop_gt, cop_ge, cop_eqi, cop_nei, b_add, b_sub, b_band, b_bor, b_bxor, e_var, t_var, vr_fr, tp_fr, tp_ow, ng_int, e_int, e_str, e_bl, e_non, e_glob, e_bin, e_cmp, e_neg, e_not, e_and, e_or, e_ite, e_chain, e_isN, e_notN, e_isIn, e_idx, e_slc, e_fld, e_call, e_meth, e_mk, e_blt, e_isI, e_isX, e_brw, e_comp, b_nm, b_tt, b_tl, sn_nil, sn_cons, evEs, evTs, evAnd, evOr, topOf, sl, env0, isOmit, freeB, wipe', frz, frzS, bltP, MP.items?, lits?, i_r1, i_r2, i_seq, i_enum, i_rev, i_zip, seq_lst, seq_lsk, seq_tup, enum_lst, enum_lsk, rev_lst, rev_tup, zip_lst, zip_tup, e_list, e_tuple, is_ii, is_ib, is_ll, sl_il, partP, es, ew, e_isint, hne, m0, m1, m2, m3, hu, hw, idxP, i1, i2, c1, c2, lstR_ok, p5]
  · rw [if_neg c1, if_pos c2] at p5
    simp [b_law_2, xs_nil, xs_cons, x_try, x_skip, x_expr, x_set, x_setO, ow_lst, x_frz, x_unpack, up_some, x_par, x_aug, aug_fr, aug_ii, x_app, x_setI, x_augI, x_setF, sf_oo, x_ite, it_ok, it_exc, it_ite, x_ret, x_retF, rf_lst, x_retO, ro_ow, x_retN, x_raise, x_for, x_while, x_brk, x_cont, tr_next, tr_ret, tr_exc, hk_t, hk_f, hd_ret, tr_ite, bd_next, bd_ret, bd_brk, bd_cont, bd_exc, bd_stuck, bd_ite, fin_ite, fin_next, fin_ret, fin_exc, bnd_ok, bnd_exc, bnd_stuck, bnd_ite, sb_ok, sb_exc, sb_stuck, sb_ite, truR_bl, truR_int, isB_bl, cop_lt, cop_le, cop_gt, cop_ge, cop_eqi, cop_nei, b_add, b_sub, b_band, b_bor, b_bxor, e_var, t_var, vr_fr, tp_fr, tp_ow, ng_int, e_int, e_str, e_bl, e_non, e_glob, e_bin, e_cmp, e_neg, e_not, e_and, e_or, e_ite, e_chain, e_isN, e_notN, e_isIn, e_idx, e_slc, e_fld, e_call, e_meth, e_mk, e_blt, e_isI, e_isX, e_brw, e_comp, b_nm, b_tt, b_tl, sn_nil, sn_cons, evEs, evTs, evAnd, evOr, topOf, sl, env0, isOmit, freeB, wipe', frz, frzS, bltP, MP.items?, lits?, i_r1, i_r2, i_seq, i_enum, i_rev, i_zip, seq_lst, seq_lsk, seq_tup, enum_lst, enum_lsk, rev_lst, rev_tup, zip_lst, zip_tup, e_list, e_tuple, is_ii, is_ib, is_ll, sl_il, partP, es, ew, e_isint, hne, m0, m1, m2, m3, hu, hw, idxP, i1, i2, c1, c2, lstR_ok, p5]
  · rw [if_neg c1, if_neg c2] at p5
    simp [b_law_2, xs_nil, xs_cons, x_try, x_skip, x_expr, x_set, x_setO, ow_lst, x_frz, x_unpack, up_some, x_par, x_aug, aug_fr, aug_ii, x_app, x_setI, x_augI, x_setF, sf_oo, x_ite, it_ok, it_exc, it_ite, x_ret, x_retF, rf_lst, x_retO, ro_ow, x_retN, x_raise, x_for, x_while, x_brk, x_cont, tr_next, tr_ret, tr_exc, hk_t, hk_f, hd_ret, tr_ite, bd_next, bd_ret, bd_brk, bd_cont, bd_exc, bd_stuck, bd_ite, fin_ite, fin_next, fin_ret, fin_exc, bnd_ok, bnd_exc, bnd_stuck, bnd_ite, sb_ok, sb_exc, sb_stuck, sb_ite, truR_bl, truR_int, isB_bl, cop_lt, cop_le, cop_gt, cop_ge, cop_eqi, cop_nei, b_add, b_sub, b_band, b_bor, b_bxor, e_var, t_var, vr_fr, tp_fr, tp_ow, ng_int, e_int, e_str, e_bl, e_non, e_glob, e_bin, e_cmp, e_neg, e_not, e_and, e_or, e_ite, e_chain, e_isN, e_notN, e_isIn, e_idx, e_slc, e_fld, e_call, e_meth, e_mk, e_blt, e_isI, e_isX, e_brw, e_comp, b_nm, b_tt, b_tl, sn_nil, sn_cons, evEs, evTs, evAnd, evOr, topOf, sl, env0, isOmit, freeB, wipe', frz, frzS, bltP, MP.items?, lits?, i_r1, i_r2, i_seq, i_enum, i_rev, i_zip, seq_lst, seq_lsk, seq_tup, enum_lst, enum_lsk, rev_lst, rev_tup, zip_lst, zip_tup, e_list, e_tuple, is_ii, is_ib, is_ll, sl_il, partP, es, ew, e_isint, hne, m0, m1, m2, m3, hu, hw, idxP, i1, i2, c1, c2, lstR_ok, p5]
theorem l_place {d h : Int} {vs : List Int} (D : DS d vs.length h) (s0 s1 s3 s5 s7 s9 s10 s11 s12 s13 s14 s15 s16 : MP.Slot) (t : List MP.Slot) (ps : List Int) :
    ∃ k12 k13 k14 k15 k16, forR (exSs b_law_2) (.nm 12) (il ps) (s0 :: s1 :: .fr (.int d) :: s3 :: .fr (.int vs.length) :: s5 :: .fr (.lst (il vs)) :: s7 :: .fr (.lst (il ((List.range d.toNat).map (polyZ vs h)))) :: s9 :: s10 :: s11 :: s12 :: s13 :: s14 :: s15 :: s16 :: t) =
      .next (s0 :: s1 :: .fr (.int d) :: s3 :: .fr (.int vs.length) :: s5 :: .fr (.lst (il vs)) :: s7 :: .fr (.lst (il ((List.range d.toNat).map (polyZ vs h)))) :: s9 :: s10 :: s11 :: k12 :: k13 :: k14 :: k15 :: k16 :: t) := by
  have a1 := D.h1; have a2 := D.s1; have a3 := D.d1; have a4 := D.hb; have a5 := D.sb
  obtain ⟨ρ', h1, k12, k13, k14, k15, k16, rfl⟩ := forR_all (body := exSs b_law_2) (tg := .nm 12) (xs := il ps) (ρ := s0 :: s1 :: .fr (.int d) :: s3 :: .fr (.int vs.length) :: s5 :: .fr (.lst (il vs)) :: s7 :: .fr (.lst (il ((List.range d.toNat).map (polyZ vs h)))) :: s9 :: s10 :: s11 :: s12 :: s13 :: s14 :: s15 :: s16 :: t)
    (fun i ρ => ∃ k12 k13 k14 k15 k16, ρ = s0 :: s1 :: .fr (.int d) :: s3 :: .fr (.int vs.length) :: s5 :: .fr (.lst (il vs)) :: s7 :: .fr (.lst (il ((List.range d.toNat).map (polyZ vs h)))) :: s9 :: s10 :: s11 :: k12 :: k13 :: k14 :: k15 :: k16 :: t) ⟨s12, s13, s14, s15, s16, rfl⟩ (fun i x ρ hx ⟨k12, k13, k14, k15, k16, e⟩ => by
      subst e
      rw [il_get] at hx
      obtain ⟨p, _, rfl⟩ := Option.map_eq_some_iff.mp hx
      obtain ⟨u, w, y, p1, p2, p3, p4, p5⟩ := place_ok D p
      have w0 := Int.emod_nonneg p (show 2 * d ≠ 0 by omega)
      have w1 := Int.emod_lt_of_pos p (show 0 < 2 * d by omega)
      have hw : w < vs.length := (List.getElem?_eq_some_iff.mp p4).1
      have i1 : atI (il ((List.range d.toNat).map (polyZ vs h))) (u : Int) = some (.int (polyZ vs h u)) := by
        rw [atI_nat (j := u)]
        rw [il_get, List.getElem?_map, List.getElem?_range p2]
        rfl
      have i2 : atI (il vs) (w : Int) = some (.int y) := by
        rw [atI_nat (j := w)]
        rw [il_get, p4]
        rfl
      have es := e_slot_of D p
      have ew := e_window D p
      obtain ⟨j13, j14, j15, j16, e⟩ := b_place s0 s1 s3 s5 s7 s9 s10 s11 k13 k14 k15 k16 t d vs.length p (slotZ d h p) u w (polyZ vs h u) y _ _ (by omega) es ew p1 i1 (by omega) p3 i2 p5
      exact ⟨_, _, rfl, .inl e, .fr (.int p), j13, j14, j15, j16, rfl⟩)
  exact ⟨k12, k13, k14, k15, k16, h1⟩
theorem cen_add (v m : Int) : cen (v + m) m = cen v m := by
  unfold cen
  rw [Int.add_emod_right]
theorem b_msg (s0 s1 s2 s3 s5 s6 s7 s8 s9 s10 s11 s12 s13 s14 s15 s16 : MP.Slot) (t : List MP.Slot) (S q i : Int) (hS : 1 ≤ S) (hS2 : S ≤ 1000000) (hq : 1 ≤ q) (hq2 : q ≤ 1000000) (cm : r_check_modulus_slots [.int (2 * S * q), .int S] = .ok .non) :
    exSs b_law_3 (s0 :: s1 :: s2 :: s3 :: .fr (.int S) :: s5 :: s6 :: s7 :: s8 :: s9 :: s10 :: s11 :: s12 :: s13 :: s14 :: s15 :: s16 :: .fr (.int (2 * S * q)) :: .fr (.int i) :: t) =
      .next (s0 :: s1 :: s2 :: s3 :: .fr (.int S) :: s5 :: s6 :: s7 :: s8 :: s9 :: s10 :: s11 :: s12 :: .fr (.int (cen (i * q) (2 * S * q))) :: s14 :: s15 :: s16 :: .fr (.int (2 * S * q)) :: .fr (.int i) :: t) := by
  have hm : 1 ≤ 2 * S * q := by
    have := Int.mul_le_mul_of_nonneg_left hq (show 0 ≤ 2 * S by omega)
    omega
  have hd : 2 * S * q / (2 * S) = q := Int.mul_ediv_cancel_left _ (by omega)
  have e1 := e_slot_message (m := 2 * S * q) i cm hm hS hS2 (by rw [hd]; exact hq2)
  have e2 := e_slot_message (m := 2 * S * q) (i + 2 * S) cm hm hS hS2 (by rw [hd]; exact hq2)
  rw [hd] at e1 e2
  rw [Int.add_mul, cen_add] at e2
  have e3 := e_law_centred (i * q) (2 * S * q) (by omega)
  have m0 := b_mul (mulB_l (i := 2) (j := S) (by decide) (by decide))
  have m1 := b_div (divB_s (i := 2 * S * q) (j := 2 * S) (by omega) (by omega))
  rw [hd] at m1
  have m2 := b_mul (mulB_r (i := i) (j := q) (by omega) (by omega))
  generalize 2 * S * q = m at *
  simp [b_law_3, xs_nil, xs_cons, x_try, x_skip, x_expr, x_set, x_setO, ow_lst, x_frz, x_unpack, up_some, x_par, x_aug, aug_fr, aug_ii, x_app, x_setI, x_augI, x_setF, sf_oo, x_ite, it_ok, it_exc, it_ite, x_ret, x_retF, rf_lst, x_retO, ro_ow, x_retN, x_raise, x_for, x_while, x_brk, x_cont, tr_next, tr_ret, tr_exc, hk_t, hk_f, hd_ret, tr_ite, bd_next, bd_ret, bd_brk, bd_cont, bd_exc, bd_stuck, bd_ite, fin_ite, fin_next, fin_ret, fin_exc, bnd_ok, bnd_exc, bnd_stuck, bnd_ite, sb_ok, sb_exc, sb_stuck, sb_ite, truR_bl, truR_int, isB_bl, cop_lt, cop_le, cop_gt, cop_ge, cop_eqi, cop_nei, b_add, b_sub, b_band, b_bor, b_bxor, e_var, t_var, vr_fr, tp_fr, tp_ow, ng_int, e_int, e_str, e_bl, e_non, e_glob, e_bin, e_cmp, e_neg, e_not, e_and, e_or, e_ite, e_chain, e_isN, e_notN, e_isIn, e_idx, e_slc, e_fld, e_call, e_meth, e_mk, e_blt, e_isI, e_isX, e_brw, e_comp, b_nm, b_tt, b_tl, sn_nil, sn_cons, evEs, evTs, evAnd, evOr, topOf, sl, env0, isOmit, freeB, wipe', frz, frzS, bltP, MP.items?, lits?, i_r1, i_r2, i_seq, i_enum, i_rev, i_zip, seq_lst, seq_lsk, seq_tup, enum_lst, enum_lsk, rev_lst, rev_tup, zip_lst, zip_tup, e_list, e_tuple, is_ii, is_ib, is_ll, sl_il, partP, e1, e2, e3, e_isint, m0, m1, m2]
theorem l_msg (s0 s1 s2 s3 s5 s6 s7 s8 s9 s10 s11 s12 s13 s14 s15 s16 s18 : MP.Slot) (t : List MP.Slot) (S q : Int) (hS : 1 ≤ S) (hS2 : S ≤ 1000000) (hq : 1 ≤ q) (hq2 : q ≤ 1000000) (cm : r_check_modulus_slots [.int (2 * S * q), .int S] = .ok .non) (ns : List Int) :
    ∃ k13 k18, forR (exSs b_law_3) (.nm 18) (il ns) (s0 :: s1 :: s2 :: s3 :: .fr (.int S) :: s5 :: s6 :: s7 :: s8 :: s9 :: s10 :: s11 :: s12 :: s13 :: s14 :: s15 :: s16 :: .fr (.int (2 * S * q)) :: s18 :: t) =
      .next (s0 :: s1 :: s2 :: s3 :: .fr (.int S) :: s5 :: s6 :: s7 :: s8 :: s9 :: s10 :: s11 :: s12 :: k13 :: s14 :: s15 :: s16 :: .fr (.int (2 * S * q)) :: k18 :: t) := by
  obtain ⟨ρ', h1, k13, k18, rfl⟩ := forR_all (body := exSs b_law_3) (tg := .nm 18) (xs := il ns) (ρ := s0 :: s1 :: s2 :: s3 :: .fr (.int S) :: s5 :: s6 :: s7 :: s8 :: s9 :: s10 :: s11 :: s12 :: s13 :: s14 :: s15 :: s16 :: .fr (.int (2 * S * q)) :: s18 :: t)
    (fun i ρ => ∃ k13 k18, ρ = s0 :: s1 :: s2 :: s3 :: .fr (.int S) :: s5 :: s6 :: s7 :: s8 :: s9 :: s10 :: s11 :: s12 :: k13 :: s14 :: s15 :: s16 :: .fr (.int (2 * S * q)) :: k18 :: t) ⟨s13, s18, rfl⟩ (fun i x ρ hx ⟨k13, k18, e⟩ => by
      subst e
      rw [il_get] at hx
      obtain ⟨p, _, rfl⟩ := Option.map_eq_some_iff.mp hx
      exact ⟨_, _, rfl, .inl (b_msg s0 s1 s2 s3 s5 s6 s7 s8 s9 s10 s11 s12 k13 s14 s15 s16 t S q p hS hS2 hq hq2 cm), _, _, rfl⟩)
  exact ⟨k13, k18, h1⟩
/-- a loop of refusals -/
theorem l_wrong (b : Cmds) (ws : List Int) (ρ0 : Env') (i0 : Nat) (h : ∀ w ∈ ws, ∀ ρ, (∃ k, ρ = ρ0.set i0 k) → exSs b (ρ.set i0 (.fr (.int w))) = .next (ρ.set i0 (.fr (.int w)))) (hw : ws ≠ []) : ∃ k, forR (exSs b) (.nm i0) (il ws) ρ0 = .next (ρ0.set i0 k) := by
  obtain ⟨ρ', h1, k, rfl⟩ := forR_all (body := exSs b) (tg := .nm i0) (xs := il ws) (ρ := ρ0) (fun i ρ => ∃ k, ρ = ρ0.set i0 k) ⟨sl ρ0 i0, by
      rw [sl_get, List.getD_eq_getElem?_getD]
      refine List.ext_getElem? fun j => ?_
      rw [List.getElem?_set]
      split
      · rename_i e
        subst e
        split
        · rename_i hl
          rw [List.getElem?_eq_getElem hl]
          rfl
        · rename_i hl
          rw [List.getElem?_eq_none (by omega)]
      · rfl⟩ (fun i x ρ hx hk => by
      rw [il_get] at hx
      obtain ⟨w, hw, rfl⟩ := Option.map_eq_some_iff.mp hx
      refine ⟨_, _, rfl, .inl (h w (List.mem_of_getElem? hw) ρ hk), ?_⟩
      obtain ⟨k, rfl⟩ := hk
      exact ⟨.fr (.int w), by rw [List.set_set]⟩)
  exact ⟨k, h1⟩
theorem bad_slots (d w : Int) (h : w < 1 ∨ w = 3 ∨ w = 5 ∨ w = 6 ∨ d < 2 * w) : r_check_slots [.int d, .int w] = .exc 1 := by
  rw [e_check_slots, if_neg]
  rintro ⟨_, h1, h2, h3⟩
  rcases h with h | h | h | h | h
  · omega
  · subst h; exact absurd h2 (by decide)
  · subst h; exact absurd h2 (by decide)
  · subst h; exact absurd h2 (by decide)
  · omega
theorem bad_mod (m w : Int) (h : w < 1 ∨ w = 3 ∨ m % (2 * w) ≠ 0) : r_check_modulus_slots [.int m, .int w] = .exc 1 := by
  rw [e_check_modulus_slots, if_neg]
  rintro ⟨h1, h2, h3⟩
  rcases h with h | h | h
  · omega
  · subst h; exact absurd h2 (by decide)
  · exact h h3
theorem w_4 (s0 s1 s3 s4 s5 s6 s7 s8 s9 s10 s11 s12 s13 s14 s15 s16 s18 : MP.Slot) (d m w : Int) (h0 : 0 ≤ w) (h1 : w ≤ 1000000) (h : w = 3 ∨ w = 5 ∨ w = 6 ∨ d < 2 * w) :
    exSs b_law_4 [s0, s1, .fr (.int d), s3, s4, s5, s6, s7, s8, s9, s10, s11, s12, s13, s14, s15, s16, .fr (.int m), s18, .fr (.int w)] = .next [s0, s1, .fr (.int d), s3, s4, s5, s6, s7, s8, s9, s10, s11, s12, s13, s14, s15, s16, .fr (.int m), s18, .fr (.int w)] := by
  have e1 := e_ref1 (m := m) (x_slot_of (i := 1) (bad_slots d w (.inr h)))
  have e2 := e_ref2 (m := m) (d := d) (s := w) (by omega) h1 (x_table_poly (by
    rw [List.length_replicate, Int.toNat_of_nonneg h0]
    exact bad_slots d w (.inr h)))
  simp [b_law_4, xs_nil, xs_cons, x_try, x_skip, x_expr, x_set, x_setO, ow_lst, x_frz, x_unpack, up_some, x_par, x_aug, aug_fr, aug_ii, x_app, x_setI, x_augI, x_setF, sf_oo, x_ite, it_ok, it_exc, it_ite, x_ret, x_retF, rf_lst, x_retO, ro_ow, x_retN, x_raise, x_for, x_while, x_brk, x_cont, tr_next, tr_ret, tr_exc, hk_t, hk_f, hd_ret, tr_ite, bd_next, bd_ret, bd_brk, bd_cont, bd_exc, bd_stuck, bd_ite, fin_ite, fin_next, fin_ret, fin_exc, bnd_ok, bnd_exc, bnd_stuck, bnd_ite, sb_ok, sb_exc, sb_stuck, sb_ite, truR_bl, truR_int, isB_bl, cop_lt, cop_le, cop_gt, cop_ge, cop_eqi, cop_nei, b_add, b_sub, b_band, b_bor, b_bxor, e_var, t_var, vr_fr, tp_fr, tp_ow, ng_int, e_int, e_str, e_bl, e_non, e_glob, e_bin, e_cmp, e_neg, e_not, e_and, e_or, e_ite, e_chain, e_isN, e_notN, e_isIn, e_idx, e_slc, e_fld, e_call, e_meth, e_mk, e_blt, e_isI, e_isX, e_brw, e_comp, b_nm, b_tt, b_tl, sn_nil, sn_cons, evEs, evTs, evAnd, evOr, topOf, sl, env0, isOmit, freeB, wipe', frz, frzS, bltP, MP.items?, lits?, i_r1, i_r2, i_seq, i_enum, i_rev, i_zip, seq_lst, seq_lsk, seq_tup, enum_lst, enum_lsk, rev_lst, rev_tup, zip_lst, zip_tup, e_list, e_tuple, is_ii, is_ib, is_ll, sl_il, partP, e1, e2]
theorem w_5 (s0 s1 s3 s4 s5 s6 s7 s8 s9 s10 s11 s12 s13 s14 s15 s16 s18 : MP.Slot) (d m w : Int) (h : w < 1) :
    exSs b_law_5 [s0, s1, .fr (.int d), s3, s4, s5, s6, s7, s8, s9, s10, s11, s12, s13, s14, s15, s16, .fr (.int m), s18, .fr (.int w)] = .next [s0, s1, .fr (.int d), s3, s4, s5, s6, s7, s8, s9, s10, s11, s12, s13, s14, s15, s16, .fr (.int m), s18, .fr (.int w)] := by
  have e1 := e_ref0 (d := d) (x_slot_message (i := 1) (bad_mod m w (.inl h)))
  have e2 := e_ref1 (m := m) (x_slot_of (i := 1) (bad_slots d w (.inl h)))
  simp [b_law_5, xs_nil, xs_cons, x_try, x_skip, x_expr, x_set, x_setO, ow_lst, x_frz, x_unpack, up_some, x_par, x_aug, aug_fr, aug_ii, x_app, x_setI, x_augI, x_setF, sf_oo, x_ite, it_ok, it_exc, it_ite, x_ret, x_retF, rf_lst, x_retO, ro_ow, x_retN, x_raise, x_for, x_while, x_brk, x_cont, tr_next, tr_ret, tr_exc, hk_t, hk_f, hd_ret, tr_ite, bd_next, bd_ret, bd_brk, bd_cont, bd_exc, bd_stuck, bd_ite, fin_ite, fin_next, fin_ret, fin_exc, bnd_ok, bnd_exc, bnd_stuck, bnd_ite, sb_ok, sb_exc, sb_stuck, sb_ite, truR_bl, truR_int, isB_bl, cop_lt, cop_le, cop_gt, cop_ge, cop_eqi, cop_nei, b_add, b_sub, b_band, b_bor, b_bxor, e_var, t_var, vr_fr, tp_fr, tp_ow, ng_int, e_int, e_str, e_bl, e_non, e_glob, e_bin, e_cmp, e_neg, e_not, e_and, e_or, e_ite, e_chain, e_isN, e_notN, e_isIn, e_idx, e_slc, e_fld, e_call, e_meth, e_mk, e_blt, e_isI, e_isX, e_brw, e_comp, b_nm, b_tt, b_tl, sn_nil, sn_cons, evEs, evTs, evAnd, evOr, topOf, sl, env0, isOmit, freeB, wipe', frz, frzS, bltP, MP.items?, lits?, i_r1, i_r2, i_seq, i_enum, i_rev, i_zip, seq_lst, seq_lsk, seq_tup, enum_lst, enum_lsk, rev_lst, rev_tup, zip_lst, zip_tup, e_list, e_tuple, is_ii, is_ib, is_ll, sl_il, partP, e1, e2]
theorem law_tail (ns : List Int) (cell many : Int) (S : Nat) (d h : Int) (D : DS d S h) (b2 : Builtin.bitAnd (S : Int) ((S : Int) - 1) = 0) (k5 : MP.Slot) :
    exSs (tlC 6 c_law) [.fr (.lsk (il ns)), .fr (.int cell), .fr (.int d), .fr (.int many), .fr (.int S), k5, .un, .un, .un, .un, .un, .un, .un, .un, .un, .un, .un, .un, .un, .un] = .ret false (.bl true) := by
  have a1 := D.h1; have a2 := D.s1; have a3 := D.d1; have a4 := D.hb; have a5 := D.sb
  obtain ⟨c1, hc1⟩ : ∃ v : Int, r__law_cell [.lsk (il ns), .int 1] = .ok (.int v) := e_cell ns 1
  obtain ⟨c2, hc2⟩ : ∃ v : Int, r__law_cell [.lsk (il ns), .int 2] = .ok (.int v) := e_cell ns 2
  obtain ⟨c3, hc3⟩ : ∃ v : Int, r__law_cell [.lsk (il ns), .int 3] = .ok (.int v) := e_cell ns 3
  obtain ⟨c4, hc4⟩ : ∃ v : Int, r__law_cell [.lsk (il ns), .int 4] = .ok (.int v) := e_cell ns 4
  obtain ⟨vs, hl, hb, hv⟩ := e_values c1 S (-1000) 1000 (by omega) (by decide) (by decide)
  subst hl
  have hp := e_table_poly vs D
  obtain ⟨P, hP⟩ : ∃ P, P = (List.range d.toNat).map (polyZ vs h) := ⟨_, rfl⟩
  have hPl : P.length = d.toNat := by rw [hP]; simp
  rw [← hP] at hp
  simp only [c_law, tlC]
  refine go_set (.lst (il vs)) (by simp [xs_nil, xs_cons, x_try, x_skip, x_expr, x_set, x_setO, ow_lst, x_frz, x_unpack, up_some, x_par, x_aug, aug_fr, aug_ii, x_app, x_setI, x_augI, x_setF, sf_oo, x_ite, it_ok, it_exc, it_ite, x_ret, x_retF, rf_lst, x_retO, ro_ow, x_retN, x_raise, x_for, x_while, x_brk, x_cont, tr_next, tr_ret, tr_exc, hk_t, hk_f, hd_ret, tr_ite, bd_next, bd_ret, bd_brk, bd_cont, bd_exc, bd_stuck, bd_ite, fin_ite, fin_next, fin_ret, fin_exc, bnd_ok, bnd_exc, bnd_stuck, bnd_ite, sb_ok, sb_exc, sb_stuck, sb_ite, truR_bl, truR_int, isB_bl, cop_lt, cop_le, cop_gt, cop_ge, cop_eqi, cop_nei, b_add, b_sub, b_band, b_bor, b_bxor, e_var, t_var, vr_fr, tp_fr, tp_ow, ng_int, e_int, e_str, e_bl, e_non, e_glob, e_bin, e_cmp, e_neg, e_not, e_and, e_or, e_ite, e_chain, e_isN, e_notN, e_isIn, e_idx, e_slc, e_fld, e_call, e_meth, e_mk, e_blt, e_isI, e_isX, e_brw, e_comp, b_nm, b_tt, b_tl, sn_nil, sn_cons, evEs, evTs, evAnd, evOr, topOf, sl, env0, isOmit, freeB, wipe', frz, frzS, bltP, MP.items?, lits?, i_r1, i_r2, i_seq, i_enum, i_rev, i_zip, seq_lst, seq_lsk, seq_tup, enum_lst, enum_lsk, rev_lst, rev_tup, zip_lst, zip_tup, e_list, e_tuple, is_ii, is_ib, is_ll, sl_il, partP, hc1, hv]) ?_
  refine go_set (.lst (il vs)) (by simp [xs_nil, xs_cons, x_try, x_skip, x_expr, x_set, x_setO, ow_lst, x_frz, x_unpack, up_some, x_par, x_aug, aug_fr, aug_ii, x_app, x_setI, x_augI, x_setF, sf_oo, x_ite, it_ok, it_exc, it_ite, x_ret, x_retF, rf_lst, x_retO, ro_ow, x_retN, x_raise, x_for, x_while, x_brk, x_cont, tr_next, tr_ret, tr_exc, hk_t, hk_f, hd_ret, tr_ite, bd_next, bd_ret, bd_brk, bd_cont, bd_exc, bd_stuck, bd_ite, fin_ite, fin_next, fin_ret, fin_exc, bnd_ok, bnd_exc, bnd_stuck, bnd_ite, sb_ok, sb_exc, sb_stuck, sb_ite, truR_bl, truR_int, isB_bl, cop_lt, cop_le, cop_gt, cop_ge, cop_eqi, cop_nei, b_add, b_sub, b_band, b_bor, b_bxor, e_var, t_var, vr_fr, tp_fr, tp_ow, ng_int, e_int, e_str, e_bl, e_non, e_glob, e_bin, e_cmp, e_neg, e_not, e_and, e_or, e_ite, e_chain, e_isN, e_notN, e_isIn, e_idx, e_slc, e_fld, e_call, e_meth, e_mk, e_blt, e_isI, e_isX, e_brw, e_comp, b_nm, b_tt, b_tl, sn_nil, sn_cons, evEs, evTs, evAnd, evOr, topOf, sl, env0, isOmit, freeB, wipe', frz, frzS, bltP, MP.items?, lits?, i_r1, i_r2, i_seq, i_enum, i_rev, i_zip, seq_lst, seq_lsk, seq_tup, enum_lst, enum_lsk, rev_lst, rev_tup, zip_lst, zip_tup, e_list, e_tuple, is_ii, is_ib, is_ll, sl_il, partP]) ?_
  refine go_set (.lst (il P)) (by simp [xs_nil, xs_cons, x_try, x_skip, x_expr, x_set, x_setO, ow_lst, x_frz, x_unpack, up_some, x_par, x_aug, aug_fr, aug_ii, x_app, x_setI, x_augI, x_setF, sf_oo, x_ite, it_ok, it_exc, it_ite, x_ret, x_retF, rf_lst, x_retO, ro_ow, x_retN, x_raise, x_for, x_while, x_brk, x_cont, tr_next, tr_ret, tr_exc, hk_t, hk_f, hd_ret, tr_ite, bd_next, bd_ret, bd_brk, bd_cont, bd_exc, bd_stuck, bd_ite, fin_ite, fin_next, fin_ret, fin_exc, bnd_ok, bnd_exc, bnd_stuck, bnd_ite, sb_ok, sb_exc, sb_stuck, sb_ite, truR_bl, truR_int, isB_bl, cop_lt, cop_le, cop_gt, cop_ge, cop_eqi, cop_nei, b_add, b_sub, b_band, b_bor, b_bxor, e_var, t_var, vr_fr, tp_fr, tp_ow, ng_int, e_int, e_str, e_bl, e_non, e_glob, e_bin, e_cmp, e_neg, e_not, e_and, e_or, e_ite, e_chain, e_isN, e_notN, e_isIn, e_idx, e_slc, e_fld, e_call, e_meth, e_mk, e_blt, e_isI, e_isX, e_brw, e_comp, b_nm, b_tt, b_tl, sn_nil, sn_cons, evEs, evTs, evAnd, evOr, topOf, sl, env0, isOmit, freeB, wipe', frz, frzS, bltP, MP.items?, lits?, i_r1, i_r2, i_seq, i_enum, i_rev, i_zip, seq_lst, seq_lsk, seq_tup, enum_lst, enum_lsk, rev_lst, rev_tup, zip_lst, zip_tup, e_list, e_tuple, is_ii, is_ib, is_ll, sl_il, partP, hp]) ?_
  refine go_skip0 (by simp [xs_nil, xs_cons, x_try, x_skip, x_expr, x_set, x_setO, ow_lst, x_frz, x_unpack, up_some, x_par, x_aug, aug_fr, aug_ii, x_app, x_setI, x_augI, x_setF, sf_oo, x_ite, it_ok, it_exc, it_ite, x_ret, x_retF, rf_lst, x_retO, ro_ow, x_retN, x_raise, x_for, x_while, x_brk, x_cont, tr_next, tr_ret, tr_exc, hk_t, hk_f, hd_ret, tr_ite, bd_next, bd_ret, bd_brk, bd_cont, bd_exc, bd_stuck, bd_ite, fin_ite, fin_next, fin_ret, fin_exc, bnd_ok, bnd_exc, bnd_stuck, bnd_ite, sb_ok, sb_exc, sb_stuck, sb_ite, truR_bl, truR_int, isB_bl, cop_lt, cop_le, cop_gt, cop_ge, cop_eqi, cop_nei, b_add, b_sub, b_band, b_bor, b_bxor, e_var, t_var, vr_fr, tp_fr, tp_ow, ng_int, e_int, e_str, e_bl, e_non, e_glob, e_bin, e_cmp, e_neg, e_not, e_and, e_or, e_ite, e_chain, e_isN, e_notN, e_isIn, e_idx, e_slc, e_fld, e_call, e_meth, e_mk, e_blt, e_isI, e_isX, e_brw, e_comp, b_nm, b_tt, b_tl, sn_nil, sn_cons, evEs, evTs, evAnd, evOr, topOf, sl, env0, isOmit, freeB, wipe', frz, frzS, bltP, MP.items?, lits?, i_r1, i_r2, i_seq, i_enum, i_rev, i_zip, seq_lst, seq_lsk, seq_tup, enum_lst, enum_lsk, rev_lst, rev_tup, zip_lst, zip_tup, e_list, e_tuple, is_ii, is_ib, is_ll, sl_il, partP, cop_neL, hPl, show max d 0 = d by omega]) ?_
  simp only [List.set]
  obtain ⟨k9, h9⟩ := l_val (.fr (.lsk (il ns))) (.fr (.int cell)) (.fr (.int d)) (.fr (.int many)) (.fr (.int vs.length)) k5 (.fr (.lst (il vs))) (.fr (.lst (il vs))) (.fr (.lst (il P))) .un [.un, .un, .un, .un, .un, .un, .un, .un, .un, .un] P
  refine go_for (il P) (by simp [xs_nil, xs_cons, x_try, x_skip, x_expr, x_set, x_setO, ow_lst, x_frz, x_unpack, up_some, x_par, x_aug, aug_fr, aug_ii, x_app, x_setI, x_augI, x_setF, sf_oo, x_ite, it_ok, it_exc, it_ite, x_ret, x_retF, rf_lst, x_retO, ro_ow, x_retN, x_raise, x_for, x_while, x_brk, x_cont, tr_next, tr_ret, tr_exc, hk_t, hk_f, hd_ret, tr_ite, bd_next, bd_ret, bd_brk, bd_cont, bd_exc, bd_stuck, bd_ite, fin_ite, fin_next, fin_ret, fin_exc, bnd_ok, bnd_exc, bnd_stuck, bnd_ite, sb_ok, sb_exc, sb_stuck, sb_ite, truR_bl, truR_int, isB_bl, cop_lt, cop_le, cop_gt, cop_ge, cop_eqi, cop_nei, b_add, b_sub, b_band, b_bor, b_bxor, e_var, t_var, vr_fr, tp_fr, tp_ow, ng_int, e_int, e_str, e_bl, e_non, e_glob, e_bin, e_cmp, e_neg, e_not, e_and, e_or, e_ite, e_chain, e_isN, e_notN, e_isIn, e_idx, e_slc, e_fld, e_call, e_meth, e_mk, e_blt, e_isI, e_isX, e_brw, e_comp, b_nm, b_tt, b_tl, sn_nil, sn_cons, evEs, evTs, evAnd, evOr, topOf, sl, env0, isOmit, freeB, wipe', frz, frzS, bltP, MP.items?, lits?, i_r1, i_r2, i_seq, i_enum, i_rev, i_zip, seq_lst, seq_lsk, seq_tup, enum_lst, enum_lsk, rev_lst, rev_tup, zip_lst, zip_tup, e_list, e_tuple, is_ii, is_ib, is_ll, sl_il, partP]) h9 ?_
  -- the places
  have hm := mapC_range (f := cpR (.var 11) .omit (.nm 11) [.fr (.lsk (il ns)), .fr (.int cell), .fr (.int d), .fr (.int many), .fr (.int vs.length), k5, .fr (.lst (il vs)), .fr (.lst (il vs)), .fr (.lst (il P)), k9, .un, .un, .un, .un, .un, .un, .un, .un, .un, .un]) (lo := 0) (n := (2 * d).toNat) (fun k => .int (k : Int)) (fun k hk => by
    rw [cp_some b_nm]
    simp [xs_nil, xs_cons, x_try, x_skip, x_expr, x_set, x_setO, ow_lst, x_frz, x_unpack, up_some, x_par, x_aug, aug_fr, aug_ii, x_app, x_setI, x_augI, x_setF, sf_oo, x_ite, it_ok, it_exc, it_ite, x_ret, x_retF, rf_lst, x_retO, ro_ow, x_retN, x_raise, x_for, x_while, x_brk, x_cont, tr_next, tr_ret, tr_exc, hk_t, hk_f, hd_ret, tr_ite, bd_next, bd_ret, bd_brk, bd_cont, bd_exc, bd_stuck, bd_ite, fin_ite, fin_next, fin_ret, fin_exc, bnd_ok, bnd_exc, bnd_stuck, bnd_ite, sb_ok, sb_exc, sb_stuck, sb_ite, truR_bl, truR_int, isB_bl, cop_lt, cop_le, cop_gt, cop_ge, cop_eqi, cop_nei, b_add, b_sub, b_band, b_bor, b_bxor, e_var, t_var, vr_fr, tp_fr, tp_ow, ng_int, e_int, e_str, e_bl, e_non, e_glob, e_bin, e_cmp, e_neg, e_not, e_and, e_or, e_ite, e_chain, e_isN, e_notN, e_isIn, e_idx, e_slc, e_fld, e_call, e_meth, e_mk, e_blt, e_isI, e_isX, e_brw, e_comp, b_nm, b_tt, b_tl, sn_nil, sn_cons, evEs, evTs, evAnd, evOr, topOf, sl, env0, isOmit, freeB, wipe', frz, frzS, bltP, MP.items?, lits?, i_r1, i_r2, i_seq, i_enum, i_rev, i_zip, seq_lst, seq_lsk, seq_tup, enum_lst, enum_lsk, rev_lst, rev_tup, zip_lst, zip_tup, e_list, e_tuple, is_ii, is_ib, is_ll, sl_il, partP])
  obtain ⟨Q, hQ⟩ : ∃ Q : List Int, Q = (List.range (2 * d).toNat).map fun (k : Nat) => (k : Int) := ⟨_, rfl⟩
  have hQ2 : (List.range (2 * d).toNat).map (fun (k : Nat) => PV.int (k : Int)) = il Q := by rw [hQ]; simp
  have hQl : Q.length ≤ 2048 := by rw [hQ]; simp; omega
  rw [hQ2] at hm
  refine go_set (.lst (il (c2 :: c3 :: Q))) (by
    simp [xs_nil, xs_cons, x_try, x_skip, x_expr, x_set, x_setO, ow_lst, x_frz, x_unpack, up_some, x_par, x_aug, aug_fr, aug_ii, x_app, x_setI, x_augI, x_setF, sf_oo, x_ite, it_ok, it_exc, it_ite, x_ret, x_retF, rf_lst, x_retO, ro_ow, x_retN, x_raise, x_for, x_while, x_brk, x_cont, tr_next, tr_ret, tr_exc, hk_t, hk_f, hd_ret, tr_ite, bd_next, bd_ret, bd_brk, bd_cont, bd_exc, bd_stuck, bd_ite, fin_ite, fin_next, fin_ret, fin_exc, bnd_ok, bnd_exc, bnd_stuck, bnd_ite, sb_ok, sb_exc, sb_stuck, sb_ite, truR_bl, truR_int, isB_bl, cop_lt, cop_le, cop_gt, cop_ge, cop_eqi, cop_nei, b_add, b_sub, b_band, b_bor, b_bxor, e_var, t_var, vr_fr, tp_fr, tp_ow, ng_int, e_int, e_str, e_bl, e_non, e_glob, e_bin, e_cmp, e_neg, e_not, e_and, e_or, e_ite, e_chain, e_isN, e_notN, e_isIn, e_idx, e_slc, e_fld, e_call, e_meth, e_mk, e_blt, e_isI, e_isX, e_brw, e_comp, b_nm, b_tt, b_tl, sn_nil, sn_cons, evEs, evTs, evAnd, evOr, topOf, sl, env0, isOmit, freeB, wipe', frz, frzS, bltP, MP.items?, lits?, i_r1, i_r2, i_seq, i_enum, i_rev, i_zip, seq_lst, seq_lsk, seq_tup, enum_lst, enum_lsk, rev_lst, rev_tup, zip_lst, zip_tup, e_list, e_tuple, is_ii, is_ib, is_ll, sl_il, partP, hc2, hc3, lstR_ok, b_mul (mulB_l (i := 2) (by decide) (by decide)), r1_ok (n := 2 * d) (by omega) (by omega), hm, b_addL (xs := [.int c2, .int c3]) (ys := il Q) (sz_le (by simp; omega))]) ?_
  simp only [List.set]
  obtain ⟨PL, hPL⟩ : ∃ PL, PL = c2 :: c3 :: Q := ⟨_, rfl⟩
  have hPLl : PL.length ≤ 2050 := by rw [hPL]; simp; omega
  rw [← hPL]
  -- cut
  have hcut : ∃ R, exS (.ite (.cmp .gt (.var 2) (.int 32)) (.cons (.set 10 (.bin .add (.bin .add (.slc (.var 10) .omit (.int 12)) (.call "_law_values" r__law_values false [] (.cons (.call "_law_cell" r__law_cell false [] (.cons (.var 0) (.cons (.int 2) .nil))) (.cons (.int 20) (.cons (.int 0) (.cons (.bin .mul (.int 2) (.var 2)) .nil)))))) (.slc (.var 10) (.bin .sub (.blt .len (.cons (.var 10) .nil)) (.int 10)) .omit))) .nil) .nil)
      [.fr (.lsk (il ns)), .fr (.int cell), .fr (.int d), .fr (.int many), .fr (.int vs.length), k5, .fr (.lst (il vs)), .fr (.lst (il vs)), .fr (.lst (il P)), k9, .fr (.lst (il PL)), .un, .un, .un, .un, .un, .un, .un, .un, .un] =
      .next [.fr (.lsk (il ns)), .fr (.int cell), .fr (.int d), .fr (.int many), .fr (.int vs.length), k5, .fr (.lst (il vs)), .fr (.lst (il vs)), .fr (.lst (il P)), k9, .fr (.lst (il R)), .un, .un, .un, .un, .un, .un, .un, .un, .un] := by
    by_cases h32 : 32 < d
    · obtain ⟨ws, wl, _, wv⟩ := e_values c2 20 0 (2 * d) (by decide) (by omega) (by omega)
      have wv' : r__law_values [.int c2, .int 20, .int 0, .int (2 * d)] = .ok (.lst (il ws)) := wv
      have z1 := cutZ_len PL none (some 12)
      have z2 := cutZ_len PL (some ((PL.length : Int) - 10)) none
      refine ⟨cutZ PL none (some 12) ++ ws ++ cutZ PL (some ((PL.length : Int) - 10)) none, ?_⟩
      simp [xs_nil, xs_cons, x_try, x_skip, x_expr, x_set, x_setO, ow_lst, x_frz, x_unpack, up_some, x_par, x_aug, aug_fr, aug_ii, x_app, x_setI, x_augI, x_setF, sf_oo, x_ite, it_ok, it_exc, it_ite, x_ret, x_retF, rf_lst, x_retO, ro_ow, x_retN, x_raise, x_for, x_while, x_brk, x_cont, tr_next, tr_ret, tr_exc, hk_t, hk_f, hd_ret, tr_ite, bd_next, bd_ret, bd_brk, bd_cont, bd_exc, bd_stuck, bd_ite, fin_ite, fin_next, fin_ret, fin_exc, bnd_ok, bnd_exc, bnd_stuck, bnd_ite, sb_ok, sb_exc, sb_stuck, sb_ite, truR_bl, truR_int, isB_bl, cop_lt, cop_le, cop_gt, cop_ge, cop_eqi, cop_nei, b_add, b_sub, b_band, b_bor, b_bxor, e_var, t_var, vr_fr, tp_fr, tp_ow, ng_int, e_int, e_str, e_bl, e_non, e_glob, e_bin, e_cmp, e_neg, e_not, e_and, e_or, e_ite, e_chain, e_isN, e_notN, e_isIn, e_idx, e_slc, e_fld, e_call, e_meth, e_mk, e_blt, e_isI, e_isX, e_brw, e_comp, b_nm, b_tt, b_tl, sn_nil, sn_cons, evEs, evTs, evAnd, evOr, topOf, sl, env0, isOmit, freeB, wipe', frz, frzS, bltP, MP.items?, lits?, i_r1, i_r2, i_seq, i_enum, i_rev, i_zip, seq_lst, seq_lsk, seq_tup, enum_lst, enum_lsk, rev_lst, rev_tup, zip_lst, zip_tup, e_list, e_tuple, is_ii, is_ib, is_ll, sl_il, partP, h32, hc2, wv', b_mul (mulB_l (i := 2) (by decide) (by decide)), b_addL (xs := il (cutZ PL none (some 12))) (ys := il ws) (sz_le (by simp; omega)), b_addL (xs := il (cutZ PL none (some 12)) ++ il ws) (ys := il (cutZ PL (some ((PL.length : Int) - 10)) none)) (sz_le (by simp; omega))]
    · exact ⟨PL, by simp [xs_nil, xs_cons, x_try, x_skip, x_expr, x_set, x_setO, ow_lst, x_frz, x_unpack, up_some, x_par, x_aug, aug_fr, aug_ii, x_app, x_setI, x_augI, x_setF, sf_oo, x_ite, it_ok, it_exc, it_ite, x_ret, x_retF, rf_lst, x_retO, ro_ow, x_retN, x_raise, x_for, x_while, x_brk, x_cont, tr_next, tr_ret, tr_exc, hk_t, hk_f, hd_ret, tr_ite, bd_next, bd_ret, bd_brk, bd_cont, bd_exc, bd_stuck, bd_ite, fin_ite, fin_next, fin_ret, fin_exc, bnd_ok, bnd_exc, bnd_stuck, bnd_ite, sb_ok, sb_exc, sb_stuck, sb_ite, truR_bl, truR_int, isB_bl, cop_lt, cop_le, cop_gt, cop_ge, cop_eqi, cop_nei, b_add, b_sub, b_band, b_bor, b_bxor, e_var, t_var, vr_fr, tp_fr, tp_ow, ng_int, e_int, e_str, e_bl, e_non, e_glob, e_bin, e_cmp, e_neg, e_not, e_and, e_or, e_ite, e_chain, e_isN, e_notN, e_isIn, e_idx, e_slc, e_fld, e_call, e_meth, e_mk, e_blt, e_isI, e_isX, e_brw, e_comp, b_nm, b_tt, b_tl, sn_nil, sn_cons, evEs, evTs, evAnd, evOr, topOf, sl, env0, isOmit, freeB, wipe', frz, frzS, bltP, MP.items?, lits?, i_r1, i_r2, i_seq, i_enum, i_rev, i_zip, seq_lst, seq_lsk, seq_tup, enum_lst, enum_lsk, rev_lst, rev_tup, zip_lst, zip_tup, e_list, e_tuple, is_ii, is_ib, is_ll, sl_il, partP, h32]⟩
  obtain ⟨R, hR⟩ := hcut
  refine go_bd hR ?_
  obtain ⟨k12, k13, k14, k15, k16, h12⟩ := l_place D (.fr (.lsk (il ns))) (.fr (.int cell)) (.fr (.int many)) k5 (.fr (.lst (il vs))) k9 (.fr (.lst (il R))) .un .un .un .un .un .un [.un, .un, .un] R
  rw [← hP] at h12
  refine go_for (il R) (by simp [xs_nil, xs_cons, x_try, x_skip, x_expr, x_set, x_setO, ow_lst, x_frz, x_unpack, up_some, x_par, x_aug, aug_fr, aug_ii, x_app, x_setI, x_augI, x_setF, sf_oo, x_ite, it_ok, it_exc, it_ite, x_ret, x_retF, rf_lst, x_retO, ro_ow, x_retN, x_raise, x_for, x_while, x_brk, x_cont, tr_next, tr_ret, tr_exc, hk_t, hk_f, hd_ret, tr_ite, bd_next, bd_ret, bd_brk, bd_cont, bd_exc, bd_stuck, bd_ite, fin_ite, fin_next, fin_ret, fin_exc, bnd_ok, bnd_exc, bnd_stuck, bnd_ite, sb_ok, sb_exc, sb_stuck, sb_ite, truR_bl, truR_int, isB_bl, cop_lt, cop_le, cop_gt, cop_ge, cop_eqi, cop_nei, b_add, b_sub, b_band, b_bor, b_bxor, e_var, t_var, vr_fr, tp_fr, tp_ow, ng_int, e_int, e_str, e_bl, e_non, e_glob, e_bin, e_cmp, e_neg, e_not, e_and, e_or, e_ite, e_chain, e_isN, e_notN, e_isIn, e_idx, e_slc, e_fld, e_call, e_meth, e_mk, e_blt, e_isI, e_isX, e_brw, e_comp, b_nm, b_tt, b_tl, sn_nil, sn_cons, evEs, evTs, evAnd, evOr, topOf, sl, env0, isOmit, freeB, wipe', frz, frzS, bltP, MP.items?, lits?, i_r1, i_r2, i_seq, i_enum, i_rev, i_zip, seq_lst, seq_lsk, seq_tup, enum_lst, enum_lsk, rev_lst, rev_tup, zip_lst, zip_tup, e_list, e_tuple, is_ii, is_ib, is_ll, sl_il, partP]) h12 ?_
  obtain ⟨q, hq⟩ : ∃ q : Int, q = 1 + cell / 64 % 1000 := ⟨_, rfl⟩
  have q0 := Int.emod_nonneg (cell / 64) (show (1000 : Int) ≠ 0 by decide)
  have q1 := Int.emod_lt_of_pos (cell / 64) (show (0 : Int) < 1000 by decide)
  have md := b_mod (i := cell / 64) (j := 1000) (by decide)
  have dv := b_div (divB_s (i := cell) (j := 64) (by decide) (by decide))
  refine go_set (.int (2 * vs.length * q)) (by
    rw [hq]
    simp [xs_nil, xs_cons, x_try, x_skip, x_expr, x_set, x_setO, ow_lst, x_frz, x_unpack, up_some, x_par, x_aug, aug_fr, aug_ii, x_app, x_setI, x_augI, x_setF, sf_oo, x_ite, it_ok, it_exc, it_ite, x_ret, x_retF, rf_lst, x_retO, ro_ow, x_retN, x_raise, x_for, x_while, x_brk, x_cont, tr_next, tr_ret, tr_exc, hk_t, hk_f, hd_ret, tr_ite, bd_next, bd_ret, bd_brk, bd_cont, bd_exc, bd_stuck, bd_ite, fin_ite, fin_next, fin_ret, fin_exc, bnd_ok, bnd_exc, bnd_stuck, bnd_ite, sb_ok, sb_exc, sb_stuck, sb_ite, truR_bl, truR_int, isB_bl, cop_lt, cop_le, cop_gt, cop_ge, cop_eqi, cop_nei, b_add, b_sub, b_band, b_bor, b_bxor, e_var, t_var, vr_fr, tp_fr, tp_ow, ng_int, e_int, e_str, e_bl, e_non, e_glob, e_bin, e_cmp, e_neg, e_not, e_and, e_or, e_ite, e_chain, e_isN, e_notN, e_isIn, e_idx, e_slc, e_fld, e_call, e_meth, e_mk, e_blt, e_isI, e_isX, e_brw, e_comp, b_nm, b_tt, b_tl, sn_nil, sn_cons, evEs, evTs, evAnd, evOr, topOf, sl, env0, isOmit, freeB, wipe', frz, frzS, bltP, MP.items?, lits?, i_r1, i_r2, i_seq, i_enum, i_rev, i_zip, seq_lst, seq_lsk, seq_tup, enum_lst, enum_lsk, rev_lst, rev_tup, zip_lst, zip_tup, e_list, e_tuple, is_ii, is_ib, is_ll, sl_il, partP, md, dv, b_mul (mulB_l (i := 2) (by decide) (by decide)), b_mul (mulB_l (i := 2 * (vs.length : Int)) (j := 1 + cell / 64 % 1000) (by omega) (by omega))]) ?_
  simp only [List.set]
  clear md dv
  have cm : r_check_modulus_slots [.int (2 * vs.length * q), .int vs.length] = .ok .non := by
    rw [e_check_modulus_slots, if_pos ⟨a2, b2, Int.mul_emod_right _ _⟩]
  obtain ⟨j13, k18, h18⟩ := l_msg (.fr (.lsk (il ns))) (.fr (.int cell)) (.fr (.int d)) (.fr (.int many)) k5 (.fr (.lst (il vs))) (.fr (.lst (il vs))) (.fr (.lst (il P))) k9 (.fr (.lst (il R))) .un k12 k13 k14 k15 k16 .un [.un] vs.length q a2 (by omega) (by omega) (by omega) cm [c4, 0, vs.length, 2 * vs.length - 1, vs.length - 1]
  refine go_for (il [c4, 0, vs.length, 2 * vs.length - 1, vs.length - 1]) (by simp [xs_nil, xs_cons, x_try, x_skip, x_expr, x_set, x_setO, ow_lst, x_frz, x_unpack, up_some, x_par, x_aug, aug_fr, aug_ii, x_app, x_setI, x_augI, x_setF, sf_oo, x_ite, it_ok, it_exc, it_ite, x_ret, x_retF, rf_lst, x_retO, ro_ow, x_retN, x_raise, x_for, x_while, x_brk, x_cont, tr_next, tr_ret, tr_exc, hk_t, hk_f, hd_ret, tr_ite, bd_next, bd_ret, bd_brk, bd_cont, bd_exc, bd_stuck, bd_ite, fin_ite, fin_next, fin_ret, fin_exc, bnd_ok, bnd_exc, bnd_stuck, bnd_ite, sb_ok, sb_exc, sb_stuck, sb_ite, truR_bl, truR_int, isB_bl, cop_lt, cop_le, cop_gt, cop_ge, cop_eqi, cop_nei, b_add, b_sub, b_band, b_bor, b_bxor, e_var, t_var, vr_fr, tp_fr, tp_ow, ng_int, e_int, e_str, e_bl, e_non, e_glob, e_bin, e_cmp, e_neg, e_not, e_and, e_or, e_ite, e_chain, e_isN, e_notN, e_isIn, e_idx, e_slc, e_fld, e_call, e_meth, e_mk, e_blt, e_isI, e_isX, e_brw, e_comp, b_nm, b_tt, b_tl, sn_nil, sn_cons, evEs, evTs, evAnd, evOr, topOf, sl, env0, isOmit, freeB, wipe', frz, frzS, bltP, MP.items?, lits?, i_r1, i_r2, i_seq, i_enum, i_rev, i_zip, seq_lst, seq_lsk, seq_tup, enum_lst, enum_lsk, rev_lst, rev_tup, zip_lst, zip_tup, e_list, e_tuple, is_ii, is_ib, is_ll, sl_il, partP, hc4, lstR_ok, b_mul (mulB_l (i := 2) (by decide) (by decide))]) h18 ?_
  obtain ⟨m, hm'⟩ : ∃ m : Int, m = 2 * vs.length * q := ⟨_, rfl⟩
  have hm1 : m % (2 * vs.length) = 0 := by rw [hm', Int.mul_emod_right]
  have hm2 : m ≤ 2000000 := by
    have := Int.mul_le_mul_of_nonneg_left (show q ≤ 1000 by omega) (show 0 ≤ 2 * (vs.length : Int) by omega)
    omega
  rw [← hm']
  have r1 := e_ref0 (d := d) (x_slot_message (i := 1) (bad_mod (m + 1) vs.length (.inr (.inr (by
    rw [Int.add_emod, hm1, Int.zero_add, Int.emod_emod_of_dvd _ (Int.dvd_refl _), Int.emod_eq_of_lt (by omega) (by omega)]
    decide)))))
  refine go_skip0 (by simp [xs_nil, xs_cons, x_try, x_skip, x_expr, x_set, x_setO, ow_lst, x_frz, x_unpack, up_some, x_par, x_aug, aug_fr, aug_ii, x_app, x_setI, x_augI, x_setF, sf_oo, x_ite, it_ok, it_exc, it_ite, x_ret, x_retF, rf_lst, x_retO, ro_ow, x_retN, x_raise, x_for, x_while, x_brk, x_cont, tr_next, tr_ret, tr_exc, hk_t, hk_f, hd_ret, tr_ite, bd_next, bd_ret, bd_brk, bd_cont, bd_exc, bd_stuck, bd_ite, fin_ite, fin_next, fin_ret, fin_exc, bnd_ok, bnd_exc, bnd_stuck, bnd_ite, sb_ok, sb_exc, sb_stuck, sb_ite, truR_bl, truR_int, isB_bl, cop_lt, cop_le, cop_gt, cop_ge, cop_eqi, cop_nei, b_add, b_sub, b_band, b_bor, b_bxor, e_var, t_var, vr_fr, tp_fr, tp_ow, ng_int, e_int, e_str, e_bl, e_non, e_glob, e_bin, e_cmp, e_neg, e_not, e_and, e_or, e_ite, e_chain, e_isN, e_notN, e_isIn, e_idx, e_slc, e_fld, e_call, e_meth, e_mk, e_blt, e_isI, e_isX, e_brw, e_comp, b_nm, b_tt, b_tl, sn_nil, sn_cons, evEs, evTs, evAnd, evOr, topOf, sl, env0, isOmit, freeB, wipe', frz, frzS, bltP, MP.items?, lits?, i_r1, i_r2, i_seq, i_enum, i_rev, i_zip, seq_lst, seq_lsk, seq_tup, enum_lst, enum_lsk, rev_lst, rev_tup, zip_lst, zip_tup, e_list, e_tuple, is_ii, is_ib, is_ll, sl_il, partP, r1]) ?_
  obtain ⟨k19, h19⟩ := l_wrong b_law_4 [3, 5, 6, d, 2 * d] [.fr (.lsk (il ns)), .fr (.int cell), .fr (.int d), .fr (.int many), .fr (.int vs.length), k5, .fr (.lst (il vs)), .fr (.lst (il vs)), .fr (.lst (il P)), k9, .fr (.lst (il R)), .un, k12, j13, k14, k15, k16, .fr (.int m), k18, .un] 19 (fun w hw ρ ⟨k, e⟩ => by
    subst e
    simp only [List.set]
    refine w_4 _ _ _ _ _ _ _ _ _ _ _ _ _ _ _ _ _ d m w ?_ ?_ ?_
    all_goals (simp only [List.mem_cons, List.not_mem_nil, or_false] at hw; omega)) (by simp)
  refine go_for (il [3, 5, 6, d, 2 * d]) (by simp [xs_nil, xs_cons, x_try, x_skip, x_expr, x_set, x_setO, ow_lst, x_frz, x_unpack, up_some, x_par, x_aug, aug_fr, aug_ii, x_app, x_setI, x_augI, x_setF, sf_oo, x_ite, it_ok, it_exc, it_ite, x_ret, x_retF, rf_lst, x_retO, ro_ow, x_retN, x_raise, x_for, x_while, x_brk, x_cont, tr_next, tr_ret, tr_exc, hk_t, hk_f, hd_ret, tr_ite, bd_next, bd_ret, bd_brk, bd_cont, bd_exc, bd_stuck, bd_ite, fin_ite, fin_next, fin_ret, fin_exc, bnd_ok, bnd_exc, bnd_stuck, bnd_ite, sb_ok, sb_exc, sb_stuck, sb_ite, truR_bl, truR_int, isB_bl, cop_lt, cop_le, cop_gt, cop_ge, cop_eqi, cop_nei, b_add, b_sub, b_band, b_bor, b_bxor, e_var, t_var, vr_fr, tp_fr, tp_ow, ng_int, e_int, e_str, e_bl, e_non, e_glob, e_bin, e_cmp, e_neg, e_not, e_and, e_or, e_ite, e_chain, e_isN, e_notN, e_isIn, e_idx, e_slc, e_fld, e_call, e_meth, e_mk, e_blt, e_isI, e_isX, e_brw, e_comp, b_nm, b_tt, b_tl, sn_nil, sn_cons, evEs, evTs, evAnd, evOr, topOf, sl, env0, isOmit, freeB, wipe', frz, frzS, bltP, MP.items?, lits?, i_r1, i_r2, i_seq, i_enum, i_rev, i_zip, seq_lst, seq_lsk, seq_tup, enum_lst, enum_lsk, rev_lst, rev_tup, zip_lst, zip_tup, e_list, e_tuple, is_ii, is_ib, is_ll, sl_il, partP, lstR_ok, b_mul (mulB_l (i := 2) (by decide) (by decide))]) h19 ?_
  simp only [List.set]
  obtain ⟨j19, h20⟩ := l_wrong b_law_5 [0, -1, -2] [.fr (.lsk (il ns)), .fr (.int cell), .fr (.int d), .fr (.int many), .fr (.int vs.length), k5, .fr (.lst (il vs)), .fr (.lst (il vs)), .fr (.lst (il P)), k9, .fr (.lst (il R)), .un, k12, j13, k14, k15, k16, .fr (.int m), k18, k19] 19 (fun w hw ρ ⟨k, e⟩ => by
    subst e
    simp only [List.set]
    refine w_5 _ _ _ _ _ _ _ _ _ _ _ _ _ _ _ _ _ d m w ?_
    simp only [List.mem_cons, List.not_mem_nil, or_false] at hw
    omega) (by simp)
  refine go_for (il [0, -1, -2]) (by simp [xs_nil, xs_cons, x_try, x_skip, x_expr, x_set, x_setO, ow_lst, x_frz, x_unpack, up_some, x_par, x_aug, aug_fr, aug_ii, x_app, x_setI, x_augI, x_setF, sf_oo, x_ite, it_ok, it_exc, it_ite, x_ret, x_retF, rf_lst, x_retO, ro_ow, x_retN, x_raise, x_for, x_while, x_brk, x_cont, tr_next, tr_ret, tr_exc, hk_t, hk_f, hd_ret, tr_ite, bd_next, bd_ret, bd_brk, bd_cont, bd_exc, bd_stuck, bd_ite, fin_ite, fin_next, fin_ret, fin_exc, bnd_ok, bnd_exc, bnd_stuck, bnd_ite, sb_ok, sb_exc, sb_stuck, sb_ite, truR_bl, truR_int, isB_bl, cop_lt, cop_le, cop_gt, cop_ge, cop_eqi, cop_nei, b_add, b_sub, b_band, b_bor, b_bxor, e_var, t_var, vr_fr, tp_fr, tp_ow, ng_int, e_int, e_str, e_bl, e_non, e_glob, e_bin, e_cmp, e_neg, e_not, e_and, e_or, e_ite, e_chain, e_isN, e_notN, e_isIn, e_idx, e_slc, e_fld, e_call, e_meth, e_mk, e_blt, e_isI, e_isX, e_brw, e_comp, b_nm, b_tt, b_tl, sn_nil, sn_cons, evEs, evTs, evAnd, evOr, topOf, sl, env0, isOmit, freeB, wipe', frz, frzS, bltP, MP.items?, lits?, i_r1, i_r2, i_seq, i_enum, i_rev, i_zip, seq_lst, seq_lsk, seq_tup, enum_lst, enum_lsk, rev_lst, rev_tup, zip_lst, zip_tup, e_list, e_tuple, is_ii, is_ib, is_ll, sl_il, partP, lstR_ok]) h20 ?_
  simp only [List.set]
  have r2 := e_ref0 (d := d) (x_slot_message (i := 1) (bad_mod (6 * m) 3 (.inr (.inl rfl))))
  refine go_skip0 (by simp [xs_nil, xs_cons, x_try, x_skip, x_expr, x_set, x_setO, ow_lst, x_frz, x_unpack, up_some, x_par, x_aug, aug_fr, aug_ii, x_app, x_setI, x_augI, x_setF, sf_oo, x_ite, it_ok, it_exc, it_ite, x_ret, x_retF, rf_lst, x_retO, ro_ow, x_retN, x_raise, x_for, x_while, x_brk, x_cont, tr_next, tr_ret, tr_exc, hk_t, hk_f, hd_ret, tr_ite, bd_next, bd_ret, bd_brk, bd_cont, bd_exc, bd_stuck, bd_ite, fin_ite, fin_next, fin_ret, fin_exc, bnd_ok, bnd_exc, bnd_stuck, bnd_ite, sb_ok, sb_exc, sb_stuck, sb_ite, truR_bl, truR_int, isB_bl, cop_lt, cop_le, cop_gt, cop_ge, cop_eqi, cop_nei, b_add, b_sub, b_band, b_bor, b_bxor, e_var, t_var, vr_fr, tp_fr, tp_ow, ng_int, e_int, e_str, e_bl, e_non, e_glob, e_bin, e_cmp, e_neg, e_not, e_and, e_or, e_ite, e_chain, e_isN, e_notN, e_isIn, e_idx, e_slc, e_fld, e_call, e_meth, e_mk, e_blt, e_isI, e_isX, e_brw, e_comp, b_nm, b_tt, b_tl, sn_nil, sn_cons, evEs, evTs, evAnd, evOr, topOf, sl, env0, isOmit, freeB, wipe', frz, frzS, bltP, MP.items?, lits?, i_r1, i_r2, i_seq, i_enum, i_rev, i_zip, seq_lst, seq_lsk, seq_tup, enum_lst, enum_lsk, rev_lst, rev_tup, zip_lst, zip_tup, e_list, e_tuple, is_ii, is_ib, is_ll, sl_il, partP, r2, b_mul (mulB_l (i := 6) (by decide) (by decide))]) ?_
  have r3 := e_ref2 (m := m) (d := d) (s := 0) (by decide) (by decide) (x_table_poly (bad_slots d 0 (.inl (by decide))))
  exact go_ret (by simp [xs_nil, xs_cons, x_try, x_skip, x_expr, x_set, x_setO, ow_lst, x_frz, x_unpack, up_some, x_par, x_aug, aug_fr, aug_ii, x_app, x_setI, x_augI, x_setF, sf_oo, x_ite, it_ok, it_exc, it_ite, x_ret, x_retF, rf_lst, x_retO, ro_ow, x_retN, x_raise, x_for, x_while, x_brk, x_cont, tr_next, tr_ret, tr_exc, hk_t, hk_f, hd_ret, tr_ite, bd_next, bd_ret, bd_brk, bd_cont, bd_exc, bd_stuck, bd_ite, fin_ite, fin_next, fin_ret, fin_exc, bnd_ok, bnd_exc, bnd_stuck, bnd_ite, sb_ok, sb_exc, sb_stuck, sb_ite, truR_bl, truR_int, isB_bl, cop_lt, cop_le, cop_gt, cop_ge, cop_eqi, cop_nei, b_add, b_sub, b_band, b_bor, b_bxor, e_var, t_var, vr_fr, tp_fr, tp_ow, ng_int, e_int, e_str, e_bl, e_non, e_glob, e_bin, e_cmp, e_neg, e_not, e_and, e_or, e_ite, e_chain, e_isN, e_notN, e_isIn, e_idx, e_slc, e_fld, e_call, e_meth, e_mk, e_blt, e_isI, e_isX, e_brw, e_comp, b_nm, b_tt, b_tl, sn_nil, sn_cons, evEs, evTs, evAnd, evOr, topOf, sl, env0, isOmit, freeB, wipe', frz, frzS, bltP, MP.items?, lits?, i_r1, i_r2, i_seq, i_enum, i_rev, i_zip, seq_lst, seq_lsk, seq_tup, enum_lst, enum_lsk, rev_lst, rev_tup, zip_lst, zip_tup, e_list, e_tuple, is_ii, is_ib, is_ll, sl_il, partP, r3])
theorem law_from (ns : List Int) (cell many : Int) (b : Nat) (hb : b ≤ 9) (m0 : 0 ≤ many) (m1 : many ≤ 10) :
    exSs (tlC 4 c_law) [.fr (.lsk (il ns)), .fr (.int cell), .fr (.int ((2 ^ (b + 1) : Nat) : Int)), .fr (.int many), .un, .un, .un, .un, .un, .un, .un, .un, .un, .un, .un, .un, .un, .un, .un, .un] = .ret false (.bl true) := by
  obtain ⟨a, k5, ha, h⟩ := l_slots (.fr (.lsk (il ns))) cell many b many.toNat hb [.un, .un, .un, .un, .un, .un, .un, .un, .un, .un, .un, .un, .un, .un]
  have D := ds_of ha hb
  simp only [c_law, tlC]
  refine go_set (.int 1) (by simp [xs_nil, xs_cons, x_try, x_skip, x_expr, x_set, x_setO, ow_lst, x_frz, x_unpack, up_some, x_par, x_aug, aug_fr, aug_ii, x_app, x_setI, x_augI, x_setF, sf_oo, x_ite, it_ok, it_exc, it_ite, x_ret, x_retF, rf_lst, x_retO, ro_ow, x_retN, x_raise, x_for, x_while, x_brk, x_cont, tr_next, tr_ret, tr_exc, hk_t, hk_f, hd_ret, tr_ite, bd_next, bd_ret, bd_brk, bd_cont, bd_exc, bd_stuck, bd_ite, fin_ite, fin_next, fin_ret, fin_exc, bnd_ok, bnd_exc, bnd_stuck, bnd_ite, sb_ok, sb_exc, sb_stuck, sb_ite, truR_bl, truR_int, isB_bl, cop_lt, cop_le, cop_gt, cop_ge, cop_eqi, cop_nei, b_add, b_sub, b_band, b_bor, b_bxor, e_var, t_var, vr_fr, tp_fr, tp_ow, ng_int, e_int, e_str, e_bl, e_non, e_glob, e_bin, e_cmp, e_neg, e_not, e_and, e_or, e_ite, e_chain, e_isN, e_notN, e_isIn, e_idx, e_slc, e_fld, e_call, e_meth, e_mk, e_blt, e_isI, e_isX, e_brw, e_comp, b_nm, b_tt, b_tl, sn_nil, sn_cons, evEs, evTs, evAnd, evOr, topOf, sl, env0, isOmit, freeB, wipe', frz, frzS, bltP, MP.items?, lits?, i_r1, i_r2, i_seq, i_enum, i_rev, i_zip, seq_lst, seq_lsk, seq_tup, enum_lst, enum_lsk, rev_lst, rev_tup, zip_lst, zip_tup, e_list, e_tuple, is_ii, is_ib, is_ll, sl_il, partP]) ?_
  refine go_for (rangeP 0 many.toNat) (by simp [xs_nil, xs_cons, x_try, x_skip, x_expr, x_set, x_setO, ow_lst, x_frz, x_unpack, up_some, x_par, x_aug, aug_fr, aug_ii, x_app, x_setI, x_augI, x_setF, sf_oo, x_ite, it_ok, it_exc, it_ite, x_ret, x_retF, rf_lst, x_retO, ro_ow, x_retN, x_raise, x_for, x_while, x_brk, x_cont, tr_next, tr_ret, tr_exc, hk_t, hk_f, hd_ret, tr_ite, bd_next, bd_ret, bd_brk, bd_cont, bd_exc, bd_stuck, bd_ite, fin_ite, fin_next, fin_ret, fin_exc, bnd_ok, bnd_exc, bnd_stuck, bnd_ite, sb_ok, sb_exc, sb_stuck, sb_ite, truR_bl, truR_int, isB_bl, cop_lt, cop_le, cop_gt, cop_ge, cop_eqi, cop_nei, b_add, b_sub, b_band, b_bor, b_bxor, e_var, t_var, vr_fr, tp_fr, tp_ow, ng_int, e_int, e_str, e_bl, e_non, e_glob, e_bin, e_cmp, e_neg, e_not, e_and, e_or, e_ite, e_chain, e_isN, e_notN, e_isIn, e_idx, e_slc, e_fld, e_call, e_meth, e_mk, e_blt, e_isI, e_isX, e_brw, e_comp, b_nm, b_tt, b_tl, sn_nil, sn_cons, evEs, evTs, evAnd, evOr, topOf, sl, env0, isOmit, freeB, wipe', frz, frzS, bltP, MP.items?, lits?, i_r1, i_r2, i_seq, i_enum, i_rev, i_zip, seq_lst, seq_lsk, seq_tup, enum_lst, enum_lsk, rev_lst, rev_tup, zip_lst, zip_tup, e_list, e_tuple, is_ii, is_ib, is_ll, sl_il, partP, r1_ok (n := many) (by omega) (by omega)]) h ?_
  exact law_tail ns cell many (2 ^ a) _ _ D (band2 a (by omega)) k5
theorem law_true (ns : List Int) (hl : ns.length ≤ 63) (hb : ∀ z ∈ ns, Builtin.Int.intBits z ≤ 1048576) : r_law [.lsk (ns.map .int)] = .ok (.bl true) := by
  obtain ⟨c0, hc0⟩ : ∃ v : Int, r__law_cell [.lsk (il ns), .int 0] = .ok (.int v) := e_cell ns 0
  obtain ⟨v, hv⟩ := e_wide c0
  unfold r_law
  rw [runF_eq (show [PV.lsk (ns.map .int)].length = 1 from rfl)]
  suffices h : exSs c_law (env0 20 [.lsk (il ns)]) = .ret false (.bl true) by
    rw [h]
    rfl
  have v0 := Int.emod_nonneg v (show (5 : Int) ≠ 0 by decide)
  have v1 := Int.emod_lt_of_pos v (show (0 : Int) < 5 by decide)
  have w0 := Int.emod_nonneg (v / 8) (show (5 : Int) ≠ 0 by decide)
  have w1 := Int.emod_lt_of_pos (v / 8) (show (0 : Int) < 5 by decide)
  have x0 := Int.emod_nonneg (v / 8) (show (10 : Int) ≠ 0 by decide)
  have x1 := Int.emod_lt_of_pos (v / 8) (show (0 : Int) < 10 by decide)
  obtain ⟨n, hn⟩ := Int.eq_ofNat_of_zero_le v0
  have p1 := b_mod (i := v) (j := 5) (by decide)
  have p2 := b_mod (i := v / 8) (j := 5) (by decide)
  have p3 := b_mod (i := v / 8) (j := 10) (by decide)
  have p4 := b_div (divB_s (i := v) (j := 8) (by decide) (by decide))
  have p5 : bop .pow (.int 2) (.int 64) = .ok (.int 18446744073709551616) := by
    rw [b_pow (by decide)]
    rfl
  have p6 := b_div (divB_s (i := v) (j := 18446744073709551616) (by decide) (by decide))
  have p7 := b_div (divB_s (i := v / 18446744073709551616) (j := 4) (by decide) (by decide))
  have p8 := b_mod (i := v / 18446744073709551616 / 4) (j := 8) (by decide)
  have q1 : bop .shl (.int 2) (.int (v % 5)) = .ok (.int ((2 ^ (n + 1) : Nat) : Int)) := by
    rw [b_shl (powB_s v0 (by omega) (by decide) (by decide)), hn, Nat.pow_succ]
    simp [Int.mul_comm]
  have q2 : bop .shl (.int 64) (.int (v % 5)) = .ok (.int ((2 ^ (n + 5 + 1) : Nat) : Int)) := by
    rw [b_shl (powB_s v0 (by omega) (by decide) (by decide)), hn, Nat.add_assoc, Nat.pow_add]
    simp [Int.mul_comm]
  generalize hd1 : ((2 ^ (n + 1) : Nat) : Int) = d1 at q1
  generalize hd2 : ((2 ^ (n + 5 + 1) : Nat) : Int) = d2 at q2
  show exSs c_law [.fr (.lsk (il ns)), .un, .un, .un, .un, .un, .un, .un, .un, .un, .un, .un, .un, .un, .un, .un, .un, .un, .un, .un] = _
  simp only [c_law]
  refine go_set (.int v) (by simp [xs_nil, xs_cons, x_try, x_skip, x_expr, x_set, x_setO, ow_lst, x_frz, x_unpack, up_some, x_par, x_aug, aug_fr, aug_ii, x_app, x_setI, x_augI, x_setF, sf_oo, x_ite, it_ok, it_exc, it_ite, x_ret, x_retF, rf_lst, x_retO, ro_ow, x_retN, x_raise, x_for, x_while, x_brk, x_cont, tr_next, tr_ret, tr_exc, hk_t, hk_f, hd_ret, tr_ite, bd_next, bd_ret, bd_brk, bd_cont, bd_exc, bd_stuck, bd_ite, fin_ite, fin_next, fin_ret, fin_exc, bnd_ok, bnd_exc, bnd_stuck, bnd_ite, sb_ok, sb_exc, sb_stuck, sb_ite, truR_bl, truR_int, isB_bl, cop_lt, cop_le, cop_gt, cop_ge, cop_eqi, cop_nei, b_add, b_sub, b_band, b_bor, b_bxor, e_var, t_var, vr_fr, tp_fr, tp_ow, ng_int, e_int, e_str, e_bl, e_non, e_glob, e_bin, e_cmp, e_neg, e_not, e_and, e_or, e_ite, e_chain, e_isN, e_notN, e_isIn, e_idx, e_slc, e_fld, e_call, e_meth, e_mk, e_blt, e_isI, e_isX, e_brw, e_comp, b_nm, b_tt, b_tl, sn_nil, sn_cons, evEs, evTs, evAnd, evOr, topOf, sl, env0, isOmit, freeB, wipe', frz, frzS, bltP, MP.items?, lits?, i_r1, i_r2, i_seq, i_enum, i_rev, i_zip, seq_lst, seq_lsk, seq_tup, enum_lst, enum_lsk, rev_lst, rev_tup, zip_lst, zip_tup, e_list, e_tuple, is_ii, is_ib, is_ll, sl_il, partP, hc0, hv]) ?_
  refine go_set (.int d1) (by simp [xs_nil, xs_cons, x_try, x_skip, x_expr, x_set, x_setO, ow_lst, x_frz, x_unpack, up_some, x_par, x_aug, aug_fr, aug_ii, x_app, x_setI, x_augI, x_setF, sf_oo, x_ite, it_ok, it_exc, it_ite, x_ret, x_retF, rf_lst, x_retO, ro_ow, x_retN, x_raise, x_for, x_while, x_brk, x_cont, tr_next, tr_ret, tr_exc, hk_t, hk_f, hd_ret, tr_ite, bd_next, bd_ret, bd_brk, bd_cont, bd_exc, bd_stuck, bd_ite, fin_ite, fin_next, fin_ret, fin_exc, bnd_ok, bnd_exc, bnd_stuck, bnd_ite, sb_ok, sb_exc, sb_stuck, sb_ite, truR_bl, truR_int, isB_bl, cop_lt, cop_le, cop_gt, cop_ge, cop_eqi, cop_nei, b_add, b_sub, b_band, b_bor, b_bxor, e_var, t_var, vr_fr, tp_fr, tp_ow, ng_int, e_int, e_str, e_bl, e_non, e_glob, e_bin, e_cmp, e_neg, e_not, e_and, e_or, e_ite, e_chain, e_isN, e_notN, e_isIn, e_idx, e_slc, e_fld, e_call, e_meth, e_mk, e_blt, e_isI, e_isX, e_brw, e_comp, b_nm, b_tt, b_tl, sn_nil, sn_cons, evEs, evTs, evAnd, evOr, topOf, sl, env0, isOmit, freeB, wipe', frz, frzS, bltP, MP.items?, lits?, i_r1, i_r2, i_seq, i_enum, i_rev, i_zip, seq_lst, seq_lsk, seq_tup, enum_lst, enum_lsk, rev_lst, rev_tup, zip_lst, zip_tup, e_list, e_tuple, is_ii, is_ib, is_ll, sl_il, partP, p1, q1]) ?_
  refine go_set (.int (v / 8 % 5)) (by simp [xs_nil, xs_cons, x_try, x_skip, x_expr, x_set, x_setO, ow_lst, x_frz, x_unpack, up_some, x_par, x_aug, aug_fr, aug_ii, x_app, x_setI, x_augI, x_setF, sf_oo, x_ite, it_ok, it_exc, it_ite, x_ret, x_retF, rf_lst, x_retO, ro_ow, x_retN, x_raise, x_for, x_while, x_brk, x_cont, tr_next, tr_ret, tr_exc, hk_t, hk_f, hd_ret, tr_ite, bd_next, bd_ret, bd_brk, bd_cont, bd_exc, bd_stuck, bd_ite, fin_ite, fin_next, fin_ret, fin_exc, bnd_ok, bnd_exc, bnd_stuck, bnd_ite, sb_ok, sb_exc, sb_stuck, sb_ite, truR_bl, truR_int, isB_bl, cop_lt, cop_le, cop_gt, cop_ge, cop_eqi, cop_nei, b_add, b_sub, b_band, b_bor, b_bxor, e_var, t_var, vr_fr, tp_fr, tp_ow, ng_int, e_int, e_str, e_bl, e_non, e_glob, e_bin, e_cmp, e_neg, e_not, e_and, e_or, e_ite, e_chain, e_isN, e_notN, e_isIn, e_idx, e_slc, e_fld, e_call, e_meth, e_mk, e_blt, e_isI, e_isX, e_brw, e_comp, b_nm, b_tt, b_tl, sn_nil, sn_cons, evEs, evTs, evAnd, evOr, topOf, sl, env0, isOmit, freeB, wipe', frz, frzS, bltP, MP.items?, lits?, i_r1, i_r2, i_seq, i_enum, i_rev, i_zip, seq_lst, seq_lsk, seq_tup, enum_lst, enum_lsk, rev_lst, rev_tup, zip_lst, zip_tup, e_list, e_tuple, is_ii, is_ib, is_ll, sl_il, partP, p4, p2]) ?_
  by_cases hc : v / 18446744073709551616 / 4 % 8 = 3
  · refine go_bd (ρ' := [.fr (.lsk (il ns)), .fr (.int v), .fr (.int d2), .fr (.int (v / 8 % 10)), .un, .un, .un, .un, .un, .un, .un, .un, .un, .un, .un, .un, .un, .un, .un, .un]) (by simp [xs_nil, xs_cons, x_try, x_skip, x_expr, x_set, x_setO, ow_lst, x_frz, x_unpack, up_some, x_par, x_aug, aug_fr, aug_ii, x_app, x_setI, x_augI, x_setF, sf_oo, x_ite, it_ok, it_exc, it_ite, x_ret, x_retF, rf_lst, x_retO, ro_ow, x_retN, x_raise, x_for, x_while, x_brk, x_cont, tr_next, tr_ret, tr_exc, hk_t, hk_f, hd_ret, tr_ite, bd_next, bd_ret, bd_brk, bd_cont, bd_exc, bd_stuck, bd_ite, fin_ite, fin_next, fin_ret, fin_exc, bnd_ok, bnd_exc, bnd_stuck, bnd_ite, sb_ok, sb_exc, sb_stuck, sb_ite, truR_bl, truR_int, isB_bl, cop_lt, cop_le, cop_gt, cop_ge, cop_eqi, cop_nei, b_add, b_sub, b_band, b_bor, b_bxor, e_var, t_var, vr_fr, tp_fr, tp_ow, ng_int, e_int, e_str, e_bl, e_non, e_glob, e_bin, e_cmp, e_neg, e_not, e_and, e_or, e_ite, e_chain, e_isN, e_notN, e_isIn, e_idx, e_slc, e_fld, e_call, e_meth, e_mk, e_blt, e_isI, e_isX, e_brw, e_comp, b_nm, b_tt, b_tl, sn_nil, sn_cons, evEs, evTs, evAnd, evOr, topOf, sl, env0, isOmit, freeB, wipe', frz, frzS, bltP, MP.items?, lits?, i_r1, i_r2, i_seq, i_enum, i_rev, i_zip, seq_lst, seq_lsk, seq_tup, enum_lst, enum_lsk, rev_lst, rev_tup, zip_lst, zip_tup, e_list, e_tuple, is_ii, is_ib, is_ll, sl_il, partP, p1, q2, p3, p4, p5, p6, p7, p8, hc]) ?_
    subst hd2
    exact law_from ns v _ (n + 5) (by omega) x0 (by omega)
  · refine go_bd (ρ' := [.fr (.lsk (il ns)), .fr (.int v), .fr (.int d1), .fr (.int (v / 8 % 5)), .un, .un, .un, .un, .un, .un, .un, .un, .un, .un, .un, .un, .un, .un, .un, .un]) (by simp [xs_nil, xs_cons, x_try, x_skip, x_expr, x_set, x_setO, ow_lst, x_frz, x_unpack, up_some, x_par, x_aug, aug_fr, aug_ii, x_app, x_setI, x_augI, x_setF, sf_oo, x_ite, it_ok, it_exc, it_ite, x_ret, x_retF, rf_lst, x_retO, ro_ow, x_retN, x_raise, x_for, x_while, x_brk, x_cont, tr_next, tr_ret, tr_exc, hk_t, hk_f, hd_ret, tr_ite, bd_next, bd_ret, bd_brk, bd_cont, bd_exc, bd_stuck, bd_ite, fin_ite, fin_next, fin_ret, fin_exc, bnd_ok, bnd_exc, bnd_stuck, bnd_ite, sb_ok, sb_exc, sb_stuck, sb_ite, truR_bl, truR_int, isB_bl, cop_lt, cop_le, cop_gt, cop_ge, cop_eqi, cop_nei, b_add, b_sub, b_band, b_bor, b_bxor, e_var, t_var, vr_fr, tp_fr, tp_ow, ng_int, e_int, e_str, e_bl, e_non, e_glob, e_bin, e_cmp, e_neg, e_not, e_and, e_or, e_ite, e_chain, e_isN, e_notN, e_isIn, e_idx, e_slc, e_fld, e_call, e_meth, e_mk, e_blt, e_isI, e_isX, e_brw, e_comp, b_nm, b_tt, b_tl, sn_nil, sn_cons, evEs, evTs, evAnd, evOr, topOf, sl, env0, isOmit, freeB, wipe', frz, frzS, bltP, MP.items?, lits?, i_r1, i_r2, i_seq, i_enum, i_rev, i_zip, seq_lst, seq_lsk, seq_tup, enum_lst, enum_lsk, rev_lst, rev_tup, zip_lst, zip_tup, e_list, e_tuple, is_ii, is_ib, is_ll, sl_il, partP, p5, p6, p7, p8, hc]) ?_
    subst hd1
    exact law_from ns v _ n (by omega) w0 (by omega)
end LW

open PySem PySem.W PySem.Calls PyProof.Rows
theorem PySem.Challenge.cw_noisepurse_k47_windows_and_tables_holds : PySem.Challenge.rw_noisepurse_k47_windows_and_tables.Holds := by
  w_on; o_law
  refine HandSHeadRun.head_any (r := OpenLaw.row PySem.Challenge.rw_noisepurse_k47_windows_and_tables) (q := view (OpenLaw.row PySem.Challenge.rw_noisepurse_k47_windows_and_tables).prog [23]) (H := LW.hk) (ob := LW.ob) (M := 3000) (loose := LW.lo) (d := HandSHeadRun.topDef (OpenLaw.row PySem.Challenge.rw_noisepurse_k47_windows_and_tables).prog 23) (kwd := []) LW.ob_eq
    (by kernel_rfl) (fun s => by kernel_rfl) LW.run (by kernel_rfl) (by kernel_rfl) (by kernel_rfl) (by rfl) (by first | assumption | decide +kernel) (by decide +kernel) ⟨rfl, rfl, rfl, rfl, rfl, by decide +kernel⟩ ?hw ?hc
  case hw => w_witness2
  case hc =>
    refine MP.walk_MP (l := PySem.Challenge.rw_noisepurse_k47_windows_and_tables) (n := 63) (k := 5) (x := "script") (g := LW.r_law) rfl (by decide) (by kernel_rfl) ⟨rfl, by decide, by decide⟩ ?F LW.law_true
    intro w mg fa h Y G hmg0
    obtain ⟨K, KX, c⟩ := Y
    have hmg : mg ("law" : PySem.Str) = some (.ref fa) := by
      have e : (HandSHeadRun.topDef (OpenLaw.row PySem.Challenge.rw_noisepurse_k47_windows_and_tables).prog 23).name = ("law" : PySem.Str) := by kernel_rfl
      rw [← e]
      exact hmg0
    obtain ⟨fd, hb, hF⟩ := LW.facts (P := (PySem.Challenge.rw_noisepurse_k47_windows_and_tables).prog) (w := w) KX G hmg c
    exact ⟨K, LW.gx K, fd, KX, hb, hF⟩
