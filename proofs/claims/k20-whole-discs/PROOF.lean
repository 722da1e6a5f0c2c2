import PyProof.Rows.All
import Wide.All
import OpenK.AllK
import Wide.FinOn
import HandS.ForMost
import HandS.Wide
import HandS.WideBits
import HandS.Gcd
import HandS.IsInst
import HandS.TupAny
import HandS.TupMul
import HandS.Zip
import HandS.Rev
import HandS.Deep
import HandS.Style
import HandS.RaiseMore
import HandS.Defaults
import HandS.Head0
import HandS.Head1
import HandS.Head2
import HandS.Head3
import HandS.HeadEnd
import HandS.HeadHook1
import HandS.HeadHook2
import PySem.Challenge.RW_bringnear_k20_whole_discs_sums_multiples
set_option Elab.async false
set_option linter.all false
set_option maxRecDepth 100000
/-! Bn, part 1: data, a small syntax, and what it means as a transformer of wishes. -/
namespace Bn
open PySem L2

/-- data without addresses: tuples and lists by content; scr: the law's script; cell: a list that is shared and changed; bor: the list that a slot owns; pin: the list that a comprehension is making -/
inductive D where
  | non | bl (b : Bool) | int (i : Int) | str (x : Str) | tup (xs : List D) | lst (xs : List D) | scr (ns : List Int) | cell (k : Nat) | bor (i : Nat) | pin (j : Nat) (vs : List V)
/-- a slot: nothing known, a shared value, a list that only this slot knows -/
inductive SV where
  | no | sh (d : D) | ow (xs : List D)
abbrev Sl := List SV
abbrev Ce := List (List D)

def D.nb : D → Bool
  | .bor _ | .pin _ _ => false
  | _ => true
def nbs (ds : List D) : Bool := ds.all D.nb
mutual
def D.plain : D → Bool
  | .non | .bl _ | .int _ | .str _ => true
  | .tup xs | .lst xs => plains xs
  | .scr _ | .cell _ | .bor _ | .pin _ _ => false
def plains : List D → Bool
  | [] => true
  | x :: xs => x.plain && plains xs
end
mutual
def D.py : D → PyData
  | .bl b => .bool b
  | .int i => .int i
  | .str x => .str x
  | .tup xs => .tuple (pys xs)
  | .lst xs => .list (pys xs)
  | .non | .scr _ | .cell _ | .bor _ | .pin _ _ => .none
def pys : List D → List PyData
  | [] => []
  | x :: xs => x.py :: pys xs
end

/-- a list that a slot or the cells know, by its content -/
def view (σ : Sl) (W : Ce) : D → D
  | .bor i => match σ[i]? with
    | some (.ow xs) => .lst xs
    | _ => .bor i
  | .cell k => match W[k]? with
    | some xs => .lst xs
    | none => .cell k
  | d => d

inductive Bop where
  | add | sub | mul | fdiv | mod | pow
inductive Cop where
  | eq | ne | lt | le | gt | ge | isIn | notIn
inductive Bi where
  | int1 | abs | divmod | len | max2 | min2 | gcd | isqrt | tuple1 | list1 | all1 | any1 | sum1 | repr1

mutual
inductive E where
  | var (i : Nat)
  | con (d : D)
  | glob (g : Nat)
  | bin (o : Bop) (a b : E)
  | neg (a : E)
  | cmp (o : Cop) (a b : E)
  | chain (o o2 : Cop) (a b c : E)
  | isN (a : E)
  | isnN (a : E)
  | and (a b : E)
  | or (a b : E)
  | not (a : E)
  | ite (t a b : E)
  | tup (as : Es)
  | lst (as : Es)
  | ix (a b : E)
  | slFrom (a b : E)
  | slTo (a b : E)
  | call (f : Nat) (as : Es)
  | callk (f : Nat) (pl : List Nat) (as : Es)
  | bi (b : Bi) (as : Es)
  | isi (a : E) (T : Nat)
  | bits (a : E)
  | lc (it : I) (g : Gt) (cond : E) (elt : E) (vs : List Nat)
inductive Es where
  | nil
  | cons (e : E) (es : Es)
inductive I where
  | val (e : E)
  | rng1 (a : E)
  | rng2 (a b : E)
  | zip (a b : E)
  | enum (a : E)
inductive Gt where
  | name (i : Nat)
  | tup (gs : Gts)
  | ix (a b : E)
inductive Gts where
  | nil
  | cons (g : Gt) (gs : Gts)
end
mutual
inductive S where
  | app (a e : E)
  | asg (g : Gt) (e : E)
  | own (i : Nat) (e : E)
  | par2 (i j : Nat) (a b : E)
  | par3 (i j l : Nat) (a b c : E)
  | ret (e : E)
  | retCell (as : Es)
  | drop (e : E)
  | sif (t : E) (a b : Ss)
  | sfor (it : I) (g : Gt) (b : Ss)
  | swhile (t : E) (b : Ss)
  | brk
  | cont
  | pass
  | never
  | frz (i : Nat) (s : S)
inductive Ss where
  | nil
  | cons (s : S) (ss : Ss)
end

/-- what may be walked: in a loop only what stays, in a comprehension also a list that a slot owns -/
def itOk (st : Bool) : D → Bool
  | .tup _ | .lst _ | .scr _ => true
  | .bor _ => !st
  | _ => false
/-- how calls of defs and the module's constants are meant -/
structure Env where
  call : Nat → List D → Ce → (D → Ce → Prop) → Prop
  consts : List D

def truth : D → Option Bool
  | .non => some false
  | .bl b => some b
  | .int i => some (i != 0)
  | .tup xs => some (!xs.isEmpty)
  | .lst xs => some (!xs.isEmpty)
  | _ => none

def binD : Bop → D → D → (D → Prop) → Prop
  | .add, .int i, .int j, Q => Q (.int (i + j))
  | .add, .tup xs, .tup ys, Q => xs.length + ys.length ≤ sizeLine ∧ Q (.tup (xs ++ ys))
  | .add, .lst xs, .lst ys, Q => xs.length + ys.length ≤ sizeLine ∧ Q (.lst (xs ++ ys))
  | .sub, .int i, .int j, Q => Q (.int (i - j))
  | .mul, .int i, .int j, Q => CMulX i j ∧ Q (.int (i * j))
  | .mul, .lst xs, .int k, Q => (-(2 ^ 63) ≤ k ∧ k < 2 ^ 63 ∧ xs.length * k.toNat ≤ sizeLine) ∧ Q (.lst (List.replicate k.toNat xs).flatten)
  | .mul, .tup xs, .int k, Q => (xs ≠ [] ∧ 2 ≤ k ∧ k ≤ 1000 ∧ xs.length ≤ 1000) ∧ Q (.tup (List.replicate k.toNat xs).flatten)
  | .fdiv, .int i, .int j, Q => (j ≠ 0 ∧ j.natAbs.log2 < 9000) ∧ Q (.int (i.fdiv j))
  | .mod, .int i, .int j, Q => j ≠ 0 ∧ Q (.int (i.fmod j))
  | .pow, .int i, .int j, Q => CPow i j ∧ Q (.int (i ^ j.toNat))
  | _, _, _, _ => False

def eqD (x y : D) : Bool := PyData.eqv x.py y.py
def eqOk (x y : D) : Bool := x.plain && y.plain && SeqAt.shaped x.py && SeqAt.shaped y.py

def flatD : D → Bool
  | .non | .bl _ | .int _ | .str _ => true
  | _ => false
def D.fv : D → V
  | .bl b => .bl b
  | .int i => .int i
  | .str x => .str x
  | _ => .non
def cmpD : Cop → D → D → (Bool → Prop) → Prop
  | .lt, .int i, .int j, Q => Q (decide (i < j))
  | .le, .int i, .int j, Q => Q (decide (i ≤ j))
  | .gt, .int i, .int j, Q => Q (decide (j < i))
  | .ge, .int i, .int j, Q => Q (decide (j ≤ i))
  | .eq, .int i, .int j, Q => Q (decide (i = j))
  | .ne, .int i, .int j, Q => Q (!decide (i = j))
  | .eq, .str i, .str j, Q => Q (decide (i = j))
  | .ne, .str i, .str j, Q => Q (!decide (i = j))
  | .eq, x, y, Q => eqOk x y = true ∧ Q (eqD x y)
  | .ne, x, y, Q => eqOk x y = true ∧ Q (!eqD x y)
  | .isIn, x, .tup ys, Q => (flatD x && ys.all flatD) = true ∧ Q (inV x.fv (ys.map D.fv))
  | .notIn, x, .tup ys, Q => (flatD x && ys.all flatD) = true ∧ Q (!inV x.fv (ys.map D.fv))
  | .isIn, x, .lst ys, Q => (eqOk x (.lst ys) = true) ∧ Q (ys.any fun y => eqD y x)
  | .notIn, x, .lst ys, Q => (eqOk x (.lst ys) = true) ∧ Q (!ys.any fun y => eqD y x)
  | _, _, _, _ => False

/-- whether a value is of the T-th of the types int, bool, tuple, list, str; none: not known here -/
def isiD (T : Nat) : D → Option Bool
  | .non => some false
  | .bl _ => some (T == 0 || T == 1)
  | .int _ => some (T == 0)
  | .str _ => some (T == 4)
  | .tup _ => some (T == 2)
  | .lst _ => some (T == 3)
  | _ => none

def allBl : List D → Option (List Bool)
  | [] => some []
  | .bl b :: r => (allBl r).map (b :: ·)
  | _ :: _ => none
def allInt : List D → Option (List Int)
  | [] => some []
  | .int i :: r => (allInt r).map (i :: ·)
  | _ :: _ => none

def biD : Bi → List D → (D → Prop) → Prop
  | .int1, [.int i], Q => Q (.int i)
  | .int1, [.bl k], Q => Q (.int (if k then 1 else 0))
  | .abs, [.int i], Q => Q (.int (if i < 0 then -i else i))
  | .divmod, [.int i, .int j], Q => (0 < j ∧ j < 1073741824) ∧ Q (.tup [.int (i / j), .int (i % j)])
  | .len, [.tup xs], Q => Q (.int xs.length)
  | .len, [.lst xs], Q => Q (.int xs.length)
  | .len, [.scr ns], Q => Q (.int ns.length)
  | .max2, [.int i, .int j], Q => Q (.int (if j > i then j else i))
  | .min2, [.int i, .int j], Q => Q (.int (if j < i then j else i))
  | .gcd, [.int i, .int j], Q => Q (.int ((Nat.gcd i.natAbs j.natAbs : Nat) : Int))
  | .isqrt, [.int i], Q => (0 ≤ i ∧ i.toNat.log2 < 13000) ∧ Q (.int ((Float64.isqrt i.toNat : Nat) : Int))
  | .tuple1, [.tup xs], Q => Q (.tup xs)
  | .tuple1, [.lst xs], Q => Q (.tup xs)
  | .list1, [.tup xs], Q => Q (.lst xs)
  | .list1, [.lst xs], Q => Q (.lst xs)
  | .all1, [.lst xs], Q => match allBl xs with
    | some bs => Q (.bl (bs.all id))
    | none => False
  | .any1, [.lst xs], Q => match allBl xs with
    | some bs => Q (.bl (bs.any id))
    | none => False
  | .sum1, [.lst xs], Q => match allInt xs with
    | some ns => Q (.int ns.sum)
    | none => False
  | .repr1, [x], Q => (x.plain = true ∧ x.py.showable = true ∧ x.py.depth ≤ 60 ∧ x.py.shown.length ≤ sizeLine) ∧ Q (.str x.py.shown)
  | _, _, _ => False

structure Ed where
  nx : Sl → Ce → Prop
  rt : D → Ce → Prop
  bk : Sl → Ce → Prop
  ct : Sl → Ce → Prop

/-- one item after another; a turn gives a value or none -/
def lcL (f : D → Ce → (Option D → Ce → Prop) → Prop) : List D → Ce → (List D → Ce → Prop) → Prop
  | [], W, Q => Q [] W
  | x :: xs, W, Q => f x W fun o W1 => lcL f xs W1 fun ys W2 => Q (match o with | some y => y :: ys | none => ys) W2
def forL (f : D → Sl → Ce → Ed → Prop) : List D → Sl → Ce → Ed → Prop
  | [], σ, W, d => d.nx σ W
  | x :: xs, σ, W, d => f x σ W { nx := fun σ W => forL f xs σ W d, rt := d.rt, bk := d.nx, ct := fun σ W => forL f xs σ W d }
def whileN (c : Sl → Ce → (Bool → Ce → Prop) → Prop) (b : Sl → Ce → Ed → Prop) : Nat → Sl → Ce → Ed → Prop
  | 0, _, _, _ => False
  | n + 1, σ, W, d => c σ W fun k W1 => if k = true then b σ W1 { nx := fun σ W => whileN c b n σ W d, rt := d.rt, bk := d.nx, ct := fun σ W => whileN c b n σ W d } else d.nx σ W1

def wipeD (σ : Sl) : List Nat → Sl
  | [] => σ
  | v :: vs => (wipeD σ vs).set v .no
def noOw (σ : Sl) (vs : List Nat) : Bool := vs.all fun v => match σ[v]? with
  | some (.ow _) => false
  | _ => true
def zipD : List D → List D → List D
  | x :: xs, y :: ys => .tup [x, y] :: zipD xs ys
  | _, _ => []
def enumD : Nat → List D → List D
  | _, [] => []
  | n, x :: xs => .tup [.int n, x] :: enumD (n + 1) xs
def rngD (lo : Int) (n : Nat) : List D := (List.range n).map fun (i : Nat) => D.int (lo + i)
def items : D → Option (List D)
  | .tup xs => some xs
  | .lst xs => some xs
  | .scr ns => some (ns.map D.int)
  | _ => none
def setCell (k : Nat) (j : Int) (d : D) (W : Ce) : Option Ce := match W[k]? with
  | some xs => (ixN xs.length j).map fun m => W.set k (xs.set m d)
  | none => none
def setOw (i : Nat) (j : Int) (d : D) (σ : Sl) : Option Sl := match σ[i]? with
  | some (.ow xs) => (ixN xs.length j).map fun m => σ.set i (.ow (xs.set m d))
  | _ => none
def permD (pl : List Nat) (ds : List D) : List D := pl.map fun i => ds.getD i .non

-- plain targets: names, and tuples of them
mutual
def gset : Gt → D → Sl → Option Sl
  | .name i, d, σ => if d.nb = true ∧ i < σ.length then some (σ.set i (.sh d)) else none
  | .tup gs, d, σ => match d with
    | .tup xs => gsets gs xs σ
    | _ => none
  | .ix _ _, _, _ => none
def gsets : Gts → List D → Sl → Option Sl
  | .nil, ds, σ => match ds with
    | [] => some σ
    | _ => none
  | .cons g gs, ds, σ => match ds with
    | d :: r => (match gset g d σ with
      | some σ1 => gsets gs r σ1
      | none => none)
    | [] => none
end
def tgN : Gts → Nat
  | .nil => 0
  | .cons _ gs => tgN gs + 1
mutual
def gslots : Gt → List Nat
  | .name i => [i]
  | .tup gs => gsslots gs
  | .ix _ _ => []
def gsslots : Gts → List Nat
  | .nil => []
  | .cons g gs => gslots g ++ gsslots gs
end

section
variable (G : Env)
mutual
def wpE : E → Sl → Ce → (D → Ce → Prop) → Prop
  | .var i, σ, W, Q => match σ[i]? with
    | some (.sh d) => Q d W
    | some (.ow _) => Q (.bor i) W
    | _ => False
  | .con d, _, W, Q => Q d W
  | .glob g, _, W, Q => match G.consts[g]? with
    | some d => Q d W
    | none => False
  | .bin o a b, σ, W, Q => wpE a σ W fun x W1 => wpE b σ W1 fun y W2 => binD o (view σ W2 x) (view σ W2 y) fun z => Q z W2
  | .neg a, σ, W, Q => wpE a σ W fun x W1 => match x with
    | .int i => Q (.int (-i)) W1
    | _ => False
  | .cmp o a b, σ, W, Q => wpE a σ W fun x W1 => wpE b σ W1 fun y W2 => cmpD o (view σ W2 x) (view σ W2 y) fun z => Q (.bl z) W2
  | .chain o o2 a b c, σ, W, Q => wpE a σ W fun x W1 => wpE b σ W1 fun y W2 => cmpD o (view σ W2 x) (view σ W2 y) fun z =>
      if z = true then wpE c σ W2 fun u W3 => cmpD o2 (view σ W3 y) (view σ W3 u) fun z => Q (.bl z) W3 else Q (.bl false) W2
  | .isN a, σ, W, Q => wpE a σ W fun x W1 => match x with
    | .non => Q (.bl true) W1
    | _ => Q (.bl false) W1
  | .isnN a, σ, W, Q => wpE a σ W fun x W1 => match x with
    | .non => Q (.bl false) W1
    | _ => Q (.bl true) W1
  | .and a b, σ, W, Q => wpE a σ W fun x W1 => match x with
    | .bl true => wpE b σ W1 Q
    | .bl false => Q (.bl false) W1
    | _ => False
  | .or a b, σ, W, Q => wpE a σ W fun x W1 => match x with
    | .bl true => Q (.bl true) W1
    | .bl false => wpE b σ W1 Q
    | _ => False
  | .not a, σ, W, Q => wpE a σ W fun x W1 => match x with
    | .bl c => Q (.bl (!c)) W1
    | _ => False
  | .ite t a b, σ, W, Q => wpE t σ W fun x W1 => match truth (view σ W1 x) with
    | some true => wpE a σ W1 Q
    | some false => wpE b σ W1 Q
    | none => False
  | .tup as, σ, W, Q => wpEs as σ W fun ds W1 => (nbs ds = true ∧ ds.length ≤ sizeLine) ∧ Q (.tup ds) W1
  | .lst as, σ, W, Q => wpEs as σ W fun ds W1 => (nbs ds = true ∧ ds.length ≤ sizeLine) ∧ Q (.lst ds) W1
  | .ix a b, σ, W, Q => wpE a σ W fun x W1 => wpE b σ W1 fun y W2 => match items (view σ W2 x), y with
    | some xs, .int i => (match atI xs i with
      | some d => Q d W2
      | none => False)
    | _, _ => False
  | .slFrom a b, σ, W, Q => wpE a σ W fun x W1 => wpE b σ W1 fun y W2 => match view σ W2 x, y with
    | .tup xs, .int i => Q (.tup ((xs.drop (HT.sIx xs.length 0 (some i))).take (xs.length - HT.sIx xs.length 0 (some i)))) W2
    | .lst xs, .int i => Q (.lst ((xs.drop (HT.sIx xs.length 0 (some i))).take (xs.length - HT.sIx xs.length 0 (some i)))) W2
    | _, _ => False
  | .slTo a b, σ, W, Q => wpE a σ W fun x W1 => wpE b σ W1 fun y W2 => match view σ W2 x, y with
    | .tup xs, .int i => Q (.tup (xs.take (HT.sIx xs.length xs.length (some i)))) W2
    | .lst xs, .int i => Q (.lst (xs.take (HT.sIx xs.length xs.length (some i)))) W2
    | .scr ns, .int i => Q (.lst ((ns.map D.int).take (HT.sIx ns.length ns.length (some i)))) W2
    | _, _ => False
  | .call f as, σ, W, Q => wpEs as σ W fun ds W1 => nbs ds = true ∧ G.call f ds W1 Q
  | .callk f pl as, σ, W, Q => wpEs as σ W fun ds W1 => nbs ds = true ∧ G.call f (permD pl ds) W1 Q
  | .bi b as, σ, W, Q => wpEs as σ W fun ds W1 => biD b (ds.map (view σ W1)) fun z => Q z W1
  | .bits a, σ, W, Q => wpE a σ W fun x W1 => match view σ W1 x with
    | .int i => Q (.int (Builtin.Int.intBits i : Nat)) W1
    | _ => False
  | .isi a T, σ, W, Q => wpE a σ W fun x W1 => match isiD T (view σ W1 x) with
    | some b => Q (.bl b) W1
    | none => False
  | .lc it g cond elt vs, σ, W, Q => noOw σ vs = true ∧ wpI false it σ W fun xs W1 => xs.length ≤ sizeLine ∧
      lcL (fun x W2 R => match gset g x (wipeD σ vs) with
        | some σ3 => wpE cond σ3 W2 fun c W4 => (match truth (view σ3 W4 c) with
          | some true => wpE elt σ3 W4 fun d W5 => d.nb = true ∧ R (some d) W5
          | some false => R none W4
          | none => False)
        | none => False) xs W1 fun ys W2 => Q (.lst ys) W2
def wpEs : Es → Sl → Ce → (List D → Ce → Prop) → Prop
  | .nil, _, W, Q => Q [] W
  | .cons e es, σ, W, Q => wpE e σ W fun d W1 => wpEs es σ W1 fun ds W2 => Q (d :: ds) W2
def wpI (st : Bool) : I → Sl → Ce → (List D → Ce → Prop) → Prop
  | .val e, σ, W, Q => wpE e σ W fun x W1 => itOk st x = true ∧ match items (view σ W1 x) with
    | some xs => Q xs W1
    | none => False
  | .rng1 a, σ, W, Q => wpE a σ W fun x W1 => match x with
    | .int j => (-(2 ^ 62) ≤ j ∧ j < 2 ^ 62) ∧ Q (rngD 0 j.toNat) W1
    | _ => False
  | .rng2 a b, σ, W, Q => wpE a σ W fun x W1 => wpE b σ W1 fun y W2 => match x, y with
    | .int i, .int j => (-(2 ^ 62) ≤ i ∧ i < 2 ^ 62 ∧ -(2 ^ 62) ≤ j ∧ j < 2 ^ 62) ∧ Q (rngD i (j - i).toNat) W2
    | _, _ => False
  | .zip a b, σ, W, Q => wpE a σ W fun x W1 => wpE b σ W1 fun y W2 => (itOk st x && itOk st y) = true ∧ match view σ W2 x, view σ W2 y with
    | .lst xs, .lst ys => xs.length = ys.length ∧ Q (zipD xs ys) W2
    | .tup xs, .tup ys => xs.length = ys.length ∧ Q (zipD xs ys) W2
    | _, _ => False
  | .enum a, σ, W, Q => wpE a σ W fun x W1 => itOk st x = true ∧ match view σ W1 x with
    | .lst xs => Q (enumD 0 xs) W1
    | _ => False
def wpG : Gt → D → Sl → Ce → (Sl → Ce → Prop) → Prop
  | .name i, d, σ, W, Q => d.nb = true ∧ i < σ.length ∧ Q (σ.set i (.sh d)) W
  | .tup gs, d, σ, W, Q => match d with
    | .tup xs => xs.length = tgN gs ∧ wpGs gs xs σ W Q
    | _ => False
  | .ix a b, d, σ, W, Q => d.nb = true ∧ wpE a σ W fun o W1 => wpE b σ W1 fun i W2 => match o, i with
    | .cell k, .int j => (match setCell k j d W2 with
      | some W3 => Q σ W3
      | none => False)
    | .bor s, .int j => (match setOw s j d σ with
      | some σ3 => Q σ3 W2
      | none => False)
    | _, _ => False
def wpGs : Gts → List D → Sl → Ce → (Sl → Ce → Prop) → Prop
  | .nil, ds, σ, W, Q => match ds with
    | [] => Q σ W
    | _ => False
  | .cons g gs, ds, σ, W, Q => match ds with
    | d :: r => wpG g d σ W fun σ1 W1 => wpGs gs r σ1 W1 Q
    | [] => False
end
def wpT (t : E) (σ : Sl) (W : Ce) (Q : Bool → Ce → Prop) : Prop := wpE G t σ W fun x W1 => match truth (view σ W1 x) with
  | some b => Q b W1
  | none => False
mutual
def wpS : S → Sl → Ce → Ed → Prop
  | .app a e, σ, W, d => wpE G a σ W fun o W1 => match o with
    | .bor i => (match σ[i]? with
      | some (.ow xs) => wpE G e σ W1 fun x W2 => (x.nb = true ∧ xs.length < sizeLine) ∧ d.nx (σ.set i (.ow (xs ++ [x]))) W2
      | _ => False)
    | _ => False
  | .asg g e, σ, W, d => wpE G e σ W fun x W1 => wpG G g x σ W1 d.nx
  | .own i e, σ, W, d => wpE G e σ W fun x W1 => match x with
    | .lst xs => i < σ.length ∧ d.nx (σ.set i (.ow xs)) W1
    | _ => False
  | .par2 i j a b, σ, W, d => wpE G a σ W fun x W1 => wpE G b σ W1 fun y W2 => (x.nb = true ∧ y.nb = true ∧ i < σ.length ∧ j < σ.length) ∧ d.nx ((σ.set i (.sh x)).set j (.sh y)) W2
  | .par3 i j l a b c, σ, W, d => wpE G a σ W fun x W1 => wpE G b σ W1 fun y W2 => wpE G c σ W2 fun z W3 =>
      (x.nb = true ∧ y.nb = true ∧ z.nb = true ∧ i < σ.length ∧ j < σ.length ∧ l < σ.length) ∧ d.nx (((σ.set i (.sh x)).set j (.sh y)).set l (.sh z)) W3
  | .ret e, σ, W, d => wpE G e σ W fun x W1 => x.nb = true ∧ d.rt x W1
  | .retCell as, σ, W, d => wpEs G as σ W fun ds W1 => (nbs ds = true ∧ ds.length ≤ sizeLine) ∧ d.rt (.cell W1.length) (W1 ++ [ds])
  | .drop e, σ, W, d => wpE G e σ W fun _ W1 => d.nx σ W1
  | .sif t a b, σ, W, d => wpT G t σ W fun k W1 => if k = true then wpSs a σ W1 d else wpSs b σ W1 d
  | .sfor it g b, σ, W, d => wpI G true it σ W fun xs W1 => forL (fun x σ W d => match gset g x σ with
      | some σ1 => wpSs b σ1 W d
      | none => False) xs σ W1 d
  | .swhile t b, σ, W, d => ∃ n, whileN (wpT G t) (wpSs b) n σ W d
  | .brk, σ, W, d => d.bk σ W
  | .cont, σ, W, d => d.ct σ W
  | .pass, σ, W, d => d.nx σ W
  | .never, _, _, _ => False
  | .frz i s, σ, W, d => match σ[i]? with
    | some (.ow xs) => wpS s (σ.set i (.sh (.lst xs))) W d
    | _ => False
def wpSs : Ss → Sl → Ce → Ed → Prop
  | .nil, σ, W, d => d.nx σ W
  | .cons s ss, σ, W, d => wpS s σ W { d with nx := fun σ1 W1 => wpSs ss σ1 W1 d }
end
end

/-- a def: how many names, how many parameters, its body -/
structure Fd where
  names : Nat
  params : Nat
  body : Ss
def startD (n : Nat) (ds : List D) : Sl := ds.map SV.sh ++ List.replicate (n - ds.length) SV.no
/-- a call of the i-th def at most n calls deep -/
def wpC (fs : List Fd) (consts : List D) : Nat → Nat → List D → Ce → (D → Ce → Prop) → Prop
  | 0, _, _, _, _ => False
  | n + 1, i, ds, W, Q => match fs[i]? with
    | some f => ds.length = f.params ∧ wpSs ⟨wpC fs consts n, consts⟩ f.body (startD f.names ds) W { nx := fun _ W1 => Q .non W1, rt := Q, bk := fun _ _ => False, ct := fun _ _ => False }
    | none => False
end Bn

set_option Elab.async false
set_option linter.all false
set_option maxRecDepth 100000
/-! Bn, part 2: wishes may be weakened. -/
namespace Bn
open PySem L2

theorem binD_mono {o : Bop} {x y : D} {Q Q' : D → Prop} (h : ∀ d, Q d → Q' d) (k : binD o x y Q) : binD o x y Q' := by
  unfold binD at *
  split at k <;> first | exact h _ k | exact ⟨k.1, h _ k.2⟩ | exact k
theorem cmpD_mono {o : Cop} {x y : D} {Q Q' : Bool → Prop} (h : ∀ d, Q d → Q' d) (k : cmpD o x y Q) : cmpD o x y Q' := by
  unfold cmpD at *
  split at k <;> first | exact h _ k | exact ⟨k.1, h _ k.2⟩ | exact k
theorem biD_mono {b : Bi} {ds : List D} {Q Q' : D → Prop} (h : ∀ d, Q d → Q' d) (k : biD b ds Q) : biD b ds Q' := by
  unfold biD at *
  split at k <;> first | exact h _ k | exact ⟨k.1, h _ k.2⟩ | (split at k <;> first | exact h _ k | exact k) | exact k
theorem lcL_mono {f : D → Ce → (Option D → Ce → Prop) → Prop} (hf : ∀ x W R R', (∀ o W, R o W → R' o W) → f x W R → f x W R') : ∀ {xs : List D} {W : Ce} {Q Q' : List D → Ce → Prop}, (∀ d W, Q d W → Q' d W) → lcL f xs W Q → lcL f xs W Q'
  | [], _, _, _, h, k => h _ _ k
  | _ :: _, _, _, _, h, k => hf _ _ _ _ (fun _ _ k' => lcL_mono hf (fun _ _ k'' => h _ _ k'') k') k
structure Ed.le (d d' : Ed) : Prop where
  nx : ∀ σ W, d.nx σ W → d'.nx σ W
  rt : ∀ x W, d.rt x W → d'.rt x W
  bk : ∀ σ W, d.bk σ W → d'.bk σ W
  ct : ∀ σ W, d.ct σ W → d'.ct σ W
theorem forL_mono {f : D → Sl → Ce → Ed → Prop} (hf : ∀ x σ W d d', Ed.le d d' → f x σ W d → f x σ W d') : ∀ {xs : List D} {σ : Sl} {W : Ce} {d d' : Ed}, Ed.le d d' → forL f xs σ W d → forL f xs σ W d'
  | [], _, _, _, _, h, k => h.nx _ _ k
  | _ :: _, _, _, _, _, h, k => by
    refine hf _ _ _ _ _ ?_ k
    exact ⟨fun _ _ k' => forL_mono hf h k', h.rt, h.nx, fun _ _ k' => forL_mono hf h k'⟩
theorem whileN_mono {c : Sl → Ce → (Bool → Ce → Prop) → Prop} {b : Sl → Ce → Ed → Prop} (hc : ∀ σ W Q Q', (∀ k W, Q k W → Q' k W) → c σ W Q → c σ W Q') (hb : ∀ σ W d d', Ed.le d d' → b σ W d → b σ W d') :
    ∀ {n : Nat} {σ : Sl} {W : Ce} {d d' : Ed}, Ed.le d d' → whileN c b n σ W d → whileN c b n σ W d'
  | 0, _, _, _, _, _, k => k
  | n + 1, σ, W, d, d', h, k => by
    refine hc _ _ _ _ (fun k' W' q => ?_) k
    split
    · rename_i e
      rw [if_pos e] at q
      refine hb _ _ _ _ ?_ q
      exact ⟨fun _ _ k' => whileN_mono hc hb h k', h.rt, h.nx, fun _ _ k' => whileN_mono hc hb h k'⟩
    · rename_i e
      rw [if_neg e] at q
      exact h.nx _ _ q

structure Env.Mono (G : Env) : Prop where
  call : ∀ i ds W (Q Q' : D → Ce → Prop), (∀ d W, Q d W → Q' d W) → G.call i ds W Q → G.call i ds W Q'

section
variable {G : Env} (M : G.Mono)
include M
mutual
theorem wpE_mono : ∀ (e : E) {σ : Sl} {W : Ce} {Q Q' : D → Ce → Prop}, (∀ d W, Q d W → Q' d W) → wpE G e σ W Q → wpE G e σ W Q'
  | .var i, _, _, _, _, h, k => by
    simp only [wpE] at *
    split at k <;> first | exact h _ _ k | exact k
  | .con d, _, _, _, _, h, k => by
    simp only [wpE] at *
    exact h _ _ k
  | .glob g, _, _, _, _, h, k => by
    simp only [wpE] at *
    split at k <;> first | exact h _ _ k | exact k
  | .bin o a b, _, _, _, _, h, k => by
    simp only [wpE] at *
    exact wpE_mono a (fun _ _ k => wpE_mono b (fun _ _ k => binD_mono (fun _ k => h _ _ k) k) k) k
  | .neg a, _, _, _, _, h, k => by
    simp only [wpE] at *
    exact wpE_mono a (fun _ _ k => by split at k <;> first | exact h _ _ k | exact k) k
  | .cmp o a b, _, _, _, _, h, k => by
    simp only [wpE] at *
    exact wpE_mono a (fun _ _ k => wpE_mono b (fun _ _ k => cmpD_mono (fun _ k => h _ _ k) k) k) k
  | .chain o o2 a b c, _, _, _, _, h, k => by
    simp only [wpE] at *
    refine wpE_mono a (fun _ _ k => wpE_mono b (fun _ _ k => cmpD_mono (fun z k => ?_) k) k) k
    split
    · rename_i e
      rw [if_pos e] at k
      exact wpE_mono c (fun _ _ k => cmpD_mono (fun _ k => h _ _ k) k) k
    · rename_i e
      rw [if_neg e] at k
      exact h _ _ k
  | .isN a, _, _, _, _, h, k => by
    simp only [wpE] at *
    exact wpE_mono a (fun _ _ k => by split at k <;> exact h _ _ k) k
  | .isnN a, _, _, _, _, h, k => by
    simp only [wpE] at *
    exact wpE_mono a (fun _ _ k => by split at k <;> exact h _ _ k) k
  | .and a b, _, _, _, _, h, k => by
    simp only [wpE] at *
    exact wpE_mono a (fun _ _ k => by split at k <;> first | exact wpE_mono b h k | exact h _ _ k | exact k) k
  | .or a b, _, _, _, _, h, k => by
    simp only [wpE] at *
    exact wpE_mono a (fun _ _ k => by split at k <;> first | exact wpE_mono b h k | exact h _ _ k | exact k) k
  | .not a, _, _, _, _, h, k => by
    simp only [wpE] at *
    exact wpE_mono a (fun _ _ k => by split at k <;> first | exact h _ _ k | exact k) k
  | .ite t a b, _, _, _, _, h, k => by
    simp only [wpE] at *
    exact wpE_mono t (fun _ _ k => by split at k <;> first | exact wpE_mono a h k | exact wpE_mono b h k | exact k) k
  | .tup as, _, _, _, _, h, k => by
    simp only [wpE] at *
    exact wpEs_mono as (fun _ _ k => ⟨k.1, h _ _ k.2⟩) k
  | .lst as, _, _, _, _, h, k => by
    simp only [wpE] at *
    exact wpEs_mono as (fun _ _ k => ⟨k.1, h _ _ k.2⟩) k
  | .ix a b, _, _, _, _, h, k => by
    simp only [wpE] at *
    exact wpE_mono a (fun _ _ k => wpE_mono b (fun _ _ k => by split at k <;> first | (split at k <;> first | exact h _ _ k | exact k) | exact k) k) k
  | .slFrom a b, _, _, _, _, h, k => by
    simp only [wpE] at *
    exact wpE_mono a (fun _ _ k => wpE_mono b (fun _ _ k => by split at k <;> first | exact h _ _ k | exact k) k) k
  | .slTo a b, _, _, _, _, h, k => by
    simp only [wpE] at *
    exact wpE_mono a (fun _ _ k => wpE_mono b (fun _ _ k => by split at k <;> first | exact h _ _ k | exact k) k) k
  | .call f as, _, _, _, _, h, k => by
    simp only [wpE] at *
    exact wpEs_mono as (fun _ _ k => ⟨k.1, M.call _ _ _ _ _ h k.2⟩) k
  | .callk f pl as, _, _, _, _, h, k => by
    simp only [wpE] at *
    exact wpEs_mono as (fun _ _ k => ⟨k.1, M.call _ _ _ _ _ h k.2⟩) k
  | .bi b as, _, _, _, _, h, k => by
    simp only [wpE] at *
    exact wpEs_mono as (fun _ _ k => biD_mono (fun _ k => h _ _ k) k) k
  | .bits a, _, _, _, _, h, k => by
    simp only [wpE] at *
    exact wpE_mono a (fun _ _ k => by split at k <;> first | exact h _ _ k | exact k) k
  | .isi a T, _, _, _, _, h, k => by
    simp only [wpE] at *
    exact wpE_mono a (fun _ _ k => by split at k <;> first | exact h _ _ k | exact k) k
  | .lc it g cond elt vs, _, _, _, _, h, k => by
    simp only [wpE] at *
    refine ⟨k.1, wpI_mono it (fun _ _ k => ⟨k.1, lcL_mono (fun x W R R' hR k => ?_) (fun _ _ k => h _ _ k) k.2⟩) k.2⟩
    split
    · rename_i e
      rw [e] at k
      refine wpE_mono cond (fun _ _ k => ?_) k
      split at k
      · exact wpE_mono elt (fun _ _ k => ⟨k.1, hR _ _ k.2⟩) k
      · exact hR _ _ k
      · exact k
    · rename_i e
      rw [e] at k
      exact k
theorem wpEs_mono : ∀ (es : Es) {σ : Sl} {W : Ce} {Q Q' : List D → Ce → Prop}, (∀ d W, Q d W → Q' d W) → wpEs G es σ W Q → wpEs G es σ W Q'
  | .nil, _, _, _, _, h, k => by
    simp only [wpEs] at *
    exact h _ _ k
  | .cons e es, _, _, _, _, h, k => by
    simp only [wpEs] at *
    exact wpE_mono e (fun _ _ k => wpEs_mono es (fun _ _ k => h _ _ k) k) k
theorem wpI_mono {st : Bool} : ∀ (e : I) {σ : Sl} {W : Ce} {Q Q' : List D → Ce → Prop}, (∀ d W, Q d W → Q' d W) → wpI G st e σ W Q → wpI G st e σ W Q'
  | .val e, _, _, _, _, h, k => by
    simp only [wpI] at *
    refine wpE_mono e (fun _ _ k => ⟨k.1, ?_⟩) k
    have k := k.2
    split at k <;> first | exact h _ _ k | exact k
  | .rng1 a, _, _, _, _, h, k => by
    simp only [wpI] at *
    exact wpE_mono a (fun _ _ k => by split at k <;> first | exact ⟨k.1, h _ _ k.2⟩ | exact k) k
  | .rng2 a b, _, _, _, _, h, k => by
    simp only [wpI] at *
    exact wpE_mono a (fun _ _ k => wpE_mono b (fun _ _ k => by split at k <;> first | exact ⟨k.1, h _ _ k.2⟩ | exact k) k) k
  | .zip a b, _, _, _, _, h, k => by
    simp only [wpI] at *
    refine wpE_mono a (fun _ _ k => wpE_mono b (fun _ _ k => ⟨k.1, ?_⟩) k) k
    have k := k.2
    split at k <;> first | exact ⟨k.1, h _ _ k.2⟩ | exact k
  | .enum a, _, _, _, _, h, k => by
    simp only [wpI] at *
    refine wpE_mono a (fun _ _ k => ⟨k.1, ?_⟩) k
    have k := k.2
    split at k <;> first | exact h _ _ k | exact k
theorem wpG_mono : ∀ (g : Gt) {d : D} {σ : Sl} {W : Ce} {Q Q' : Sl → Ce → Prop}, (∀ d W, Q d W → Q' d W) → wpG G g d σ W Q → wpG G g d σ W Q'
  | .name i, _, _, _, _, _, h, k => by
    simp only [wpG] at *
    exact ⟨k.1, k.2.1, h _ _ k.2.2⟩
  | .tup gs, _, _, _, _, _, h, k => by
    simp only [wpG] at *
    split at k
    · exact ⟨k.1, wpGs_mono gs h k.2⟩
    · exact k
  | .ix a b, _, _, _, _, _, h, k => by
    simp only [wpG] at *
    refine ⟨k.1, wpE_mono a (fun _ _ k => wpE_mono b (fun _ _ k => ?_) k) k.2⟩
    split at k <;> first | (split at k <;> first | exact h _ _ k | exact k) | exact k
theorem wpGs_mono : ∀ (gs : Gts) {ds : List D} {σ : Sl} {W : Ce} {Q Q' : Sl → Ce → Prop}, (∀ d W, Q d W → Q' d W) → wpGs G gs ds σ W Q → wpGs G gs ds σ W Q'
  | .nil, _, _, _, _, _, h, k => by
    simp only [wpGs] at *
    split at k <;> first | exact h _ _ k | exact k
  | .cons g gs, _, _, _, _, _, h, k => by
    simp only [wpGs] at *
    split at k
    · exact wpG_mono g (fun _ _ k => wpGs_mono gs h k) k
    · exact k
end
theorem wpT_mono (t : E) {σ : Sl} {W : Ce} {Q Q' : Bool → Ce → Prop} (h : ∀ d W, Q d W → Q' d W) (k : wpT G t σ W Q) : wpT G t σ W Q' :=
  wpE_mono M t (fun _ _ k => by split at k <;> first | exact h _ _ k | exact k) k
mutual
theorem wpS_mono : ∀ (s : S) {σ : Sl} {W : Ce} {d d' : Ed}, Ed.le d d' → wpS G s σ W d → wpS G s σ W d'
  | .app a e, _, _, _, _, h, k => by
    simp only [wpS] at *
    refine wpE_mono M a (fun _ _ k => ?_) k
    split at k <;> first | (split at k <;> first | exact wpE_mono M e (fun _ _ k => ⟨k.1, h.nx _ _ k.2⟩) k | exact k) | exact k
  | .asg g e, _, _, _, _, h, k => by
    simp only [wpS] at *
    exact wpE_mono M e (fun _ _ k => wpG_mono M g h.nx k) k
  | .own i e, _, _, _, _, h, k => by
    simp only [wpS] at *
    exact wpE_mono M e (fun _ _ k => by split at k <;> first | exact ⟨k.1, h.nx _ _ k.2⟩ | exact k) k
  | .par2 i j a b, _, _, _, _, h, k => by
    simp only [wpS] at *
    exact wpE_mono M a (fun _ _ k => wpE_mono M b (fun _ _ k => ⟨k.1, h.nx _ _ k.2⟩) k) k
  | .par3 i j l a b c, _, _, _, _, h, k => by
    simp only [wpS] at *
    exact wpE_mono M a (fun _ _ k => wpE_mono M b (fun _ _ k => wpE_mono M c (fun _ _ k => ⟨k.1, h.nx _ _ k.2⟩) k) k) k
  | .ret e, _, _, _, _, h, k => by
    simp only [wpS] at *
    exact wpE_mono M e (fun _ _ k => ⟨k.1, h.rt _ _ k.2⟩) k
  | .retCell as, _, _, _, _, h, k => by
    simp only [wpS] at *
    exact wpEs_mono M as (fun _ _ k => ⟨k.1, h.rt _ _ k.2⟩) k
  | .drop e, _, _, _, _, h, k => by
    simp only [wpS] at *
    exact wpE_mono M e (fun _ _ k => h.nx _ _ k) k
  | .sif t a b, _, _, _, _, h, k => by
    simp only [wpS] at *
    refine wpT_mono M t (fun _ _ k => ?_) k
    split
    · rename_i e
      rw [if_pos e] at k
      exact wpSs_mono a h k
    · rename_i e
      rw [if_neg e] at k
      exact wpSs_mono b h k
  | .sfor it g b, _, _, _, _, h, k => by
    simp only [wpS] at *
    refine wpI_mono M it (fun xs W1 k => ?_) k
    refine forL_mono (fun x σ W d d' h k => ?_) h k
    split
    · rename_i e
      rw [e] at k
      exact wpSs_mono b h k
    · rename_i e
      rw [e] at k
      exact k
  | .swhile t b, _, _, _, _, h, k => by
    simp only [wpS] at *
    obtain ⟨n, k⟩ := k
    refine ⟨n, whileN_mono (fun σ W Q Q' h k => ?_) (fun σ W d d' h k => ?_) h k⟩
    · exact wpT_mono M t h k
    · exact wpSs_mono b h k
  | .brk, _, _, _, _, h, k => by
    simp only [wpS] at *
    exact h.bk _ _ k
  | .cont, _, _, _, _, h, k => by
    simp only [wpS] at *
    exact h.ct _ _ k
  | .pass, _, _, _, _, h, k => by
    simp only [wpS] at *
    exact h.nx _ _ k
  | .never, _, _, _, _, h, k => by
    simp only [wpS] at *
  | .frz i s, _, _, _, _, h, k => by
    simp only [wpS] at *
    split at k <;> first | exact wpS_mono s h k | exact k
theorem wpSs_mono : ∀ (s : Ss) {σ : Sl} {W : Ce} {d d' : Ed}, Ed.le d d' → wpSs G s σ W d → wpSs G s σ W d'
  | .nil, _, _, _, _, h, k => by
    simp only [wpSs] at *
    exact h.nx _ _ k
  | .cons s ss, _, _, _, _, h, k => by
    simp only [wpSs] at *
    refine wpS_mono s ?_ k
    exact ⟨fun _ _ k => wpSs_mono ss h k, h.rt, h.bk, h.ct⟩
end
end
theorem wpC_mono (fs : List Fd) (cs : List D) : ∀ (n : Nat), (Env.mk (wpC fs cs n) cs).Mono
  | 0 => ⟨fun _ _ _ _ _ _ k => k⟩
  | n + 1 => ⟨fun i ds W Q Q' h k => by
    show wpC fs cs (n + 1) i ds W Q'
    have k : wpC fs cs (n + 1) i ds W Q := k
    unfold wpC at *
    split at k
    · refine ⟨k.1, wpSs_mono (wpC_mono fs cs n) _ ?_ k.2⟩
      exact ⟨fun _ _ k => h _ _ k, h, fun _ _ k => k, fun _ _ k => k⟩
    · exact k⟩
end Bn

set_option Elab.async false
set_option linter.all false
set_option maxRecDepth 100000
/-! Bn, part 3: data and the abstract heap. -/
namespace Bn
open PySem L2

/-- the script, or another list that nobody changes -/
def SqK (K : PySem.W.Frag) (H : Hp) (a : Addr) (xs : List V) : Prop :=
  (∃ o, H a = some (.frz o (.lst xs))) ∨ ∃ (o : Obj) (its : Array Value) (n : Nat), K.lookup a = some o ∧ o.cls = .type "list" ∧ o.dict = none ∧ o.data = .seq its n ∧ its.size ≤ sizeLine ∧ Vals xs its.toList
theorem SqK.sq {K : PySem.W.Frag} {H : Hp} {a : Addr} {xs : List V} (h : SqK K H a xs) : SqL K H a xs := by
  rcases h with h | h
  · exact .inl (.inr h)
  · exact .inr h

-- A: lists that must not be met; C: the cells
mutual
inductive Rep (K : PySem.W.Frag) (A : Addr → Prop) (C : List Addr) (H : Hp) : D → V → Prop
  | non : Rep K A C H .non .non
  | bl (b : Bool) : Rep K A C H (.bl b) (.bl b)
  | int (i : Int) : Rep K A C H (.int i) (.int i)
  | str (x : Str) : Rep K A C H (.str x) (.str x)
  | tup {a : Addr} {vs : List V} {ds : List D} : SqT K H a vs → Reps K A C H ds vs → Rep K A C H (.tup ds) (.ref a)
  | lst {a : Addr} {vs : List V} {ds : List D} : H a = some (.lst vs) → ¬ A a → a ∉ C → Reps K A C H ds vs → Rep K A C H (.lst ds) (.ref a)
  | scr {a : Addr} {ns : List Int} : SqK K H a (ns.map V.int) → Rep K A C H (.scr ns) (.ref a)
  | cell {k : Nat} {a : Addr} : C[k]? = some a → Rep K A C H (.cell k) (.ref a)
inductive Reps (K : PySem.W.Frag) (A : Addr → Prop) (C : List Addr) (H : Hp) : List D → List V → Prop
  | nil : Reps K A C H [] []
  | cons {d : D} {ds : List D} {v : V} {vs : List V} : Rep K A C H d v → Reps K A C H ds vs → Reps K A C H (d :: ds) (v :: vs)
end

section
variable {K : PySem.W.Frag} {A A' : Addr → Prop} {C C' : List Addr} {H H' : Hp}
theorem Reps.length : ∀ {ds : List D} {vs : List V}, Reps K A C H ds vs → ds.length = vs.length
  | _, _, .nil => rfl
  | _, _, .cons _ t => congrArg (· + 1) (Reps.length t)
theorem Reps.get : ∀ {ds : List D} {vs : List V} {i : Nat} {d : D}, Reps K A C H ds vs → ds[i]? = some d → ∃ v, vs[i]? = some v ∧ Rep K A C H d v
  | _, _, _, _, .nil, e => by simp at e
  | _, _, 0, _, .cons r _, e => by simp at e; subst e; exact ⟨_, rfl, r⟩
  | _, _, i + 1, d, .cons _ t, e => by
    obtain ⟨v, h1, h2⟩ := Reps.get (i := i) (d := d) t (by simpa using e)
    exact ⟨v, by simpa using h1, h2⟩
theorem Reps.set {d : D} {v : V} (r : Rep K A C H d v) : ∀ {ds : List D} {vs : List V} (i : Nat), Reps K A C H ds vs → Reps K A C H (ds.set i d) (vs.set i v)
  | _, _, _, .nil => .nil
  | _, _, 0, .cons _ t => .cons r t
  | _, _, i + 1, .cons q t => .cons q (Reps.set r i t)
theorem Reps.append : ∀ {ds es : List D} {vs ws : List V}, Reps K A C H ds vs → Reps K A C H es ws → Reps K A C H (ds ++ es) (vs ++ ws)
  | _, _, _, _, .nil, s => s
  | _, _, _, _, .cons r t, s => .cons r (Reps.append t s)
theorem Reps.take : ∀ {ds : List D} {vs : List V} (n : Nat), Reps K A C H ds vs → Reps K A C H (ds.take n) (vs.take n)
  | _, _, 0, _ => .nil
  | _, _, _ + 1, .nil => .nil
  | _, _, n + 1, .cons r t => .cons r (Reps.take n t)
theorem Reps.drop : ∀ {ds : List D} {vs : List V} (n : Nat), Reps K A C H ds vs → Reps K A C H (ds.drop n) (vs.drop n)
  | _, _, 0, r => r
  | _, _, _ + 1, .nil => .nil
  | _, _, n + 1, .cons _ t => Reps.drop n t
theorem Reps.rep {ds : List D} {vs : List V} (r : Reps K A C H ds vs) : ∀ n : Nat, Reps K A C H (List.replicate n ds).flatten (List.replicate n vs).flatten
  | 0 => .nil
  | n + 1 => by
    rw [List.replicate_succ, List.replicate_succ, List.flatten_cons, List.flatten_cons]
    exact r.append (Reps.rep r n)
theorem Reps.ints : ∀ (ns : List Int), Reps K A C H (ns.map D.int) (ns.map V.int)
  | [] => .nil
  | n :: ns => .cons (.int n) (Reps.ints ns)
theorem Rep.nb {d : D} {v : V} (r : Rep K A C H d v) : d.nb = true := by
  cases r <;> rfl

/-- what may have changed: the lists at M -/
def Keep (M : Addr → Prop) (H H' : Hp) : Prop := ∀ a o, H a = some o → (M a → ∀ xs, o ≠ .lst xs) → H' a = some o
theorem Keep.refl (M : Addr → Prop) (H : Hp) : Keep M H H := fun _ _ h _ => h
theorem Keep.tup {M : Addr → Prop} (k : Keep M H H') {a : Addr} {vs : List V} (h : SqT K H a vs) : SqT K H' a vs := by
  rcases h with (h | ⟨o, h⟩) | h
  · exact .inl (.inl (k _ _ h fun _ _ e => nomatch e))
  · exact .inl (.inr ⟨o, k _ _ h fun _ _ e => nomatch e⟩)
  · exact .inr h
theorem Keep.frz {M : Addr → Prop} (k : Keep M H H') {a : Addr} {vs : List V} (h : SqK K H a vs) : SqK K H' a vs := by
  rcases h with ⟨o, h⟩ | h
  · exact .inl ⟨o, k _ _ h fun _ _ e => nomatch e⟩
  · exact .inr h
theorem Keep.lst {M : Addr → Prop} (k : Keep M H H') {a : Addr} {vs : List V} (h : H a = some (.lst vs)) (n : ¬ M a) : H' a = some (.lst vs) := k _ _ h fun m => absurd m n
theorem Keep.trans {M : Addr → Prop} {H'' : Hp} (k : Keep M H H') (k' : Keep M H' H'') : Keep M H H'' := fun a o h n => k' a o (k a o h n) n
theorem Keep.imp {M M' : Addr → Prop} (k : Keep M H H') (h : ∀ a, M a → M' a) : Keep M' H H' := fun a o e n => k a o e fun m => n (h a m)
theorem Keep.new {p : Addr} {o : HO} (M : Addr → Prop) (h : H p = none) : Keep M H (upd H p o) := fun a u e _ => by
  rw [upd_ne (ne_of_none e h)]
  exact e
theorem Keep.upd {p : Addr} {o : HO} {vs : List V} {M : Addr → Prop} (h : H p = some (.lst vs)) (m : M p) : Keep M H (upd H p o) := fun a u e n => by
  by_cases c : a = p
  · subst c
    rw [h] at e
    cases e
    exact absurd rfl (n m _)
  · rw [upd_ne c]
    exact e

structure Go (K : PySem.W.Frag) (A A' : Addr → Prop) (C C' : List Addr) (H H' : Hp) : Prop where
  keep : Keep (fun a => A a ∨ a ∈ C) H H'
  av : ∀ (a : Addr), A' a → A a ∨ H a = none
  cs : ∀ (k : Nat) (a : Addr), C[k]? = some a → C'[k]? = some a
  cn : ∀ (a : Addr), a ∈ C' → a ∈ C ∨ H a = none
mutual
theorem Rep.go (g : Go K A A' C C' H H') : ∀ {d : D} {v : V}, Rep K A C H d v → Rep K A' C' H' d v
  | _, _, .non => .non
  | _, _, .bl b => .bl b
  | _, _, .int i => .int i
  | _, _, .str x => .str x
  | _, _, .tup h r => .tup (g.keep.tup h) (Reps.go g r)
  | _, _, .lst h n c r => .lst (g.keep.lst h fun z => z.elim n c) (fun z => (g.av _ z).elim n fun e => by rw [h] at e; cases e) (fun z => (g.cn _ z).elim c fun e => by rw [h] at e; cases e) (Reps.go g r)
  | _, _, .scr h => .scr (g.keep.frz h)
  | _, _, .cell h => .cell (g.cs _ _ h)
theorem Reps.go (g : Go K A A' C C' H H') : ∀ {ds : List D} {vs : List V}, Reps K A C H ds vs → Reps K A' C' H' ds vs
  | _, _, .nil => .nil
  | _, _, .cons r t => .cons (Rep.go g r) (Reps.go g t)
end

/-- read off the heap: a list whoever owns it -/
def RepU (K : PySem.W.Frag) (A : Addr → Prop) (C : List Addr) (H : Hp) (d : D) (v : V) : Prop :=
  Rep K A C H d v ∨ (∃ a vs ds, d = .lst ds ∧ v = .ref a ∧ H a = some (.lst vs) ∧ Reps K A C H ds vs) ∨ d.nb = false
theorem RepU.tup {ds : List D} {v : V} (h : RepU K A C H (.tup ds) v) : ∃ a vs, v = .ref a ∧ SqT K H a vs ∧ Reps K A C H ds vs := by
  rcases h with h | ⟨_, _, _, e, _⟩ | e
  · cases h with
    | tup h r => exact ⟨_, _, rfl, h, r⟩
  · cases e
  · cases e
theorem RepU.lst {ds : List D} {v : V} (h : RepU K A C H (.lst ds) v) : ∃ a vs, v = .ref a ∧ H a = some (.lst vs) ∧ Reps K A C H ds vs := by
  rcases h with h | ⟨a, vs, _, e, e', h, r⟩ | e
  · cases h with
    | lst h _ _ r => exact ⟨_, _, rfl, h, r⟩
  · cases e
    exact ⟨a, vs, e', h, r⟩
  · cases e
theorem RepU.scr {ns : List Int} {v : V} (h : RepU K A C H (.scr ns) v) : ∃ a, v = .ref a ∧ SqK K H a (ns.map V.int) := by
  rcases h with h | ⟨_, _, _, e, _⟩ | e
  · cases h with
    | scr h => exact ⟨_, rfl, h⟩
  · cases e
  · cases e
theorem RepU.int {i : Int} {v : V} (h : RepU K A C H (.int i) v) : v = .int i := by
  rcases h with h | ⟨_, _, _, e, _⟩ | e
  · cases h; rfl
  · cases e
  · cases e
theorem RepU.bl {i : Bool} {v : V} (h : RepU K A C H (.bl i) v) : v = .bl i := by
  rcases h with h | ⟨_, _, _, e, _⟩ | e
  · cases h; rfl
  · cases e
  · cases e
theorem RepU.str {i : Str} {v : V} (h : RepU K A C H (.str i) v) : v = .str i := by
  rcases h with h | ⟨_, _, _, e, _⟩ | e
  · cases h; rfl
  · cases e
  · cases e
theorem RepU.non {v : V} (h : RepU K A C H .non v) : v = .non := by
  rcases h with h | ⟨_, _, _, e, _⟩ | e
  · cases h; rfl
  · cases e
  · cases e
mutual
theorem Rep.dp : ∀ {d : D} {v : V}, Rep K A C H d v → d.plain = true → Dp K H v d.py
  | _, _, .non, _ => .non
  | _, _, .bl b, _ => .bl b
  | _, _, .int i, _ => .int i
  | _, _, .str x, _ => .str x
  | _, _, .tup h r, p => .tup h (Reps.dp r (by simpa only [D.plain] using p))
  | _, _, .lst h _ _ r, p => .lst (SqL.of h) (Reps.dp r (by simpa only [D.plain] using p))
  | _, _, .scr _, p => by simp [D.plain] at p
  | _, _, .cell _, p => by simp [D.plain] at p
theorem Reps.dp : ∀ {ds : List D} {vs : List V}, Reps K A C H ds vs → plains ds = true → DpAll K H vs (pys ds)
  | _, _, .nil, _ => .nil
  | _, _, .cons r t, p => by
    simp only [plains, Bool.and_eq_true] at p
    exact .cons (Rep.dp r p.1) (Reps.dp t p.2)
end
theorem RepU.dp {d : D} {v : V} (h : RepU K A C H d v) (p : d.plain = true) : Dp K H v d.py := by
  rcases h with h | ⟨a, vs, ds, rfl, rfl, h, r⟩ | e
  · exact h.dp p
  · simp only [D.plain] at p
    simp only [D.py]
    exact .lst (SqL.of h) (r.dp p)
  · cases d <;> first | (simp [D.plain] at p; done) | (cases e; done)
end

/-- a def's frame: the protected lists of the callers, the heap and the cells at the entry -/
structure Frm where
  K : PySem.W.Frag
  P : Addr → Prop
  H0 : Hp
  C0 : List Addr
abbrev Own := Nat → Option Addr
def Av (P : Addr → Prop) (own : Own) (a : Addr) : Prop := P a ∨ ∃ i, own i = some a
def RepT (K : PySem.W.Frag) (P : Addr → Prop) (own : Own) (C : List Addr) (H : Hp) (d : D) (v : V) : Prop :=
  Rep K (Av P own) C H d v ∨ (∃ i a, d = .bor i ∧ own i = some a ∧ v = .ref a) ∨ ∃ i a vs, d = .pin i vs ∧ own i = some a ∧ v = .ref a ∧ H a = some (.lst vs)

structure Sim (F : Frm) (τ : List (D × V)) (own : Own) (C : List Addr) (σd : Sl) (W : Ce) (σ : L2.St) (H : Hp) : Prop where
  tmp : ∀ p ∈ τ, RepT F.K F.P own C H p.1 p.2
  len : σ.length = σd.length
  sh : ∀ (i : Nat) (d : D), σd[i]? = some (.sh d) → ∃ v, σ[i]? = some (some v) ∧ Rep F.K (Av F.P own) C H d v
  ow : ∀ (i : Nat) (ds : List D), σd[i]? = some (.ow ds) → ∃ a vs, own i = some a ∧ σ[i]? = some (some (.ref a)) ∧ H a = some (.lst vs) ∧ Reps F.K (Av F.P own) C H ds vs
  oin : ∀ i j a, own i = some a → own j = some a → i = j
  olt : ∀ i a, own i = some a → F.H0 a = none ∧ (∃ vs, H a = some (.lst vs)) ∧ a ∉ C ∧ ¬ F.P a
  fin : ∃ B, ∀ j, B ≤ j → own j = none
  cl : C.length = W.length
  ce : ∀ (k : Nat) (a : Addr) (ds : List D), C[k]? = some a → W[k]? = some ds → ∃ vs, H a = some (.lst vs) ∧ Reps F.K (Av F.P own) C H ds vs
  cn : C.Nodup
  cp : ∀ a ∈ C, ¬ F.P a
  cx : ∀ (k : Nat) (a : Addr), F.C0[k]? = some a → C[k]? = some a
  cnew : ∀ a ∈ C, a ∈ F.C0 ∨ F.H0 a = none
  kp : Keep (· ∈ F.C0) F.H0 H
  pl : ∀ a, F.P a → (∃ vs, F.H0 a = some (.lst vs)) ∧ a ∉ F.C0

section
variable {F : Frm} {τ τ' : List (D × V)} {own : Own} {C : List Addr} {σd : Sl} {W : Ce} {σ : L2.St} {H : Hp}
theorem Sim.push (s : Sim F τ own C σd W σ H) {d : D} {v : V} (r : RepT F.K F.P own C H d v) : Sim F ((d, v) :: τ) own C σd W σ H := by
  refine { s with tmp := fun p hp => ?_ }
  rcases List.mem_cons.mp hp with e | h
  · subst e
    exact r
  · exact s.tmp p h
theorem Sim.sub (s : Sim F τ own C σd W σ H) (h : ∀ p ∈ τ', p ∈ τ) : Sim F τ' own C σd W σ H := { s with tmp := fun p hp => s.tmp p (h p hp) }
theorem Sim.pop {p : D × V} (s : Sim F (p :: τ) own C σd W σ H) : Sim F τ own C σd W σ H := s.sub fun _ h => List.mem_cons_of_mem _ h
theorem Sim.pop2 {p q : D × V} (s : Sim F (p :: q :: τ) own C σd W σ H) : Sim F (p :: τ) own C σd W σ H := s.sub fun x h => by
  rcases List.mem_cons.mp h with e | h
  · subst e; exact List.mem_cons_self
  · exact List.mem_cons_of_mem _ (List.mem_cons_of_mem _ h)
theorem Sim.cellAt (s : Sim F τ own C σd W σ H) {a : Addr} (h : a ∈ C) : ∃ vs, H a = some (.lst vs) := by
  obtain ⟨k, hk⟩ := List.getElem?_of_mem h
  have hl : k < C.length := (List.getElem?_eq_some_iff.mp hk).1
  rw [s.cl] at hl
  obtain ⟨vs, h1, _⟩ := s.ce k a W[k] hk (by simp [hl])
  exact ⟨vs, h1⟩
theorem Sim.pAt (s : Sim F τ own C σd W σ H) {a : Addr} (h : F.P a) : ∃ vs, H a = some (.lst vs) := by
  obtain ⟨⟨vs, h1⟩, h2⟩ := s.pl a h
  exact ⟨vs, s.kp a _ h1 fun m => absurd m h2⟩
theorem Sim.avAt (s : Sim F τ own C σd W σ H) {a : Addr} (h : Av F.P own a) : ∃ vs, H a = some (.lst vs) := by
  rcases h with h | ⟨i, h⟩
  · exact s.pAt h
  · exact (s.olt i a h).2.1
theorem Sim.free0 (s : Sim F τ own C σd W σ H) {p : Addr} (h : H p = none) : F.H0 p = none := by
  cases e : F.H0 p with
  | none => rfl
  | some o =>
    by_cases c : p ∈ F.C0
    · obtain ⟨k, hk⟩ := List.getElem?_of_mem c
      obtain ⟨vs, hv⟩ := s.cellAt (List.mem_of_getElem? (s.cx k p hk))
      rw [h] at hv; cases hv
    · have := s.kp p o e fun m => absurd m c
      rw [h] at this; cases this
theorem Sim.newAv (s : Sim F τ own C σd W σ H) {p : Addr} (h : H p = none) : ¬ Av F.P own p := fun z => by
  obtain ⟨vs, e⟩ := s.avAt z
  rw [h] at e; cases e
theorem Sim.newC (s : Sim F τ own C σd W σ H) {p : Addr} (h : H p = none) : p ∉ C := fun z => by
  obtain ⟨vs, e⟩ := s.cellAt z
  rw [h] at e; cases e
theorem RepT.go {K : PySem.W.Frag} {P : Addr → Prop} {own : Own} {C C' : List Addr} {H H' : Hp} (g : Go K (Av P own) (Av P own) C C' H H') (k : Keep (· ∈ C) H H') (nc : ∀ i a, own i = some a → a ∉ C) {d : D} {v : V} (r : RepT K P own C H d v) : RepT K P own C' H' d v := by
  rcases r with r | r | ⟨i, a, vs, e1, e2, e3, e4⟩
  · exact .inl (r.go g)
  · exact .inr (.inl r)
  · exact .inr (.inr ⟨i, a, vs, e1, e2, e3, k.lst e4 (nc i a e2)⟩)
/-- a new object is laid -/
theorem Sim.new (s : Sim F τ own C σd W σ H) {p : Addr} (o : HO) (h : H p = none) : Sim F τ own C σd W σ (upd H p o) ∧ Go F.K (Av F.P own) (Av F.P own) C C H (upd H p o) := by
  have g : Go F.K (Av F.P own) (Av F.P own) C C H (upd H p o) := ⟨Keep.new _ h, fun _ z => .inl z, fun _ _ z => z, fun _ z => .inl z⟩
  have k : ∀ {a : Addr} {vs : List V}, H a = some (.lst vs) → upd H p o a = some (.lst vs) := fun {a vs} e => by
    rw [upd_ne (ne_of_none e h)]; exact e
  refine ⟨{ s with tmp := fun q hq => (s.tmp q hq).go g (Keep.new _ h) fun i a e => (s.olt i a e).2.2.1, sh := fun i d e => ?_, ow := fun i ds e => ?_, olt := fun i a e => ?_, ce := fun i a ds e1 e2 => ?_, kp := s.kp.trans (Keep.new _ h) }, g⟩
  · obtain ⟨v, h1, r⟩ := s.sh i d e
    exact ⟨v, h1, r.go g⟩
  · obtain ⟨a, vs, h1, h2, h3, r⟩ := s.ow i ds e
    exact ⟨a, vs, h1, h2, k h3, r.go g⟩
  · obtain ⟨h1, ⟨vs, h2⟩, h3⟩ := s.olt i a e
    exact ⟨h1, ⟨vs, k h2⟩, h3⟩
  · obtain ⟨vs, h1, r⟩ := s.ce i a ds e1 e2
    exact ⟨vs, k h1, r.go g⟩
theorem Sim.newTup (s : Sim F τ own C σd W σ H) {p : Addr} {ds : List D} {vs : List V} (h : H p = none) (r : Reps F.K (Av F.P own) C H ds vs) : Sim F ((.tup ds, .ref p) :: τ) own C σd W σ (upd H p (.tup vs)) :=
  let ⟨s', g⟩ := s.new (.tup vs) h
  s'.push (.inl (.tup (SqT.of upd_same) (r.go g)))
theorem Sim.newLst (s : Sim F τ own C σd W σ H) {p : Addr} {ds : List D} {vs : List V} (h : H p = none) (r : Reps F.K (Av F.P own) C H ds vs) : Sim F ((.lst ds, .ref p) :: τ) own C σd W σ (upd H p (.lst vs)) :=
  let ⟨s', g⟩ := s.new (.lst vs) h
  s'.push (.inl (.lst upd_same (s.newAv h) (s.newC h) (r.go g)))
/-- what a temporary shows -/
theorem Sim.view (s : Sim F τ own C σd W σ H) {d : D} {v : V} (h : (d, v) ∈ τ) : RepU F.K (Av F.P own) C H (view σd W d) v := by
  rcases s.tmp _ h with r | ⟨i, a, e1, e2, e3⟩ | ⟨i, a, vs, e1, e2, e3, e4⟩
  · have r : Rep F.K (Av F.P own) C H d v := r
    unfold Bn.view
    split
    · cases r
    · rename_i k
      cases r with
      | cell hk =>
        split
        · rename_i xs e
          obtain ⟨vs, h1, r⟩ := s.ce _ _ xs hk e
          exact .inr (.inl ⟨_, vs, xs, rfl, rfl, h1, r⟩)
        · exact .inl (.cell hk)
    · exact .inl r
  · have e1 : d = .bor i := e1
    have e3 : v = .ref a := e3
    subst e1 e3
    unfold Bn.view
    dsimp only
    split
    · rename_i xs e
      obtain ⟨b, vs, h1, h2, h3, r⟩ := s.ow i xs e
      rw [e2] at h1; cases h1
      exact .inr (.inl ⟨_, vs, xs, rfl, rfl, h3, r⟩)
    · exact .inr (.inr rfl)
  · have e1 : d = .pin i vs := e1
    subst e1
    exact .inr (.inr rfl)
end
end Bn

set_option Elab.async false
set_option linter.all false
set_option maxRecDepth 100000
/-! Bn, part 4: operators and built-ins. -/
namespace Bn
open PySem L2

def rB (X : Cx) (f : Value → Value → Sem Value) : R2 := fun x y H Q => ∀ (pins : List (Addr × Obj)) (s : Shared) (σ : L2.St) (v u : Value), Inv X pins σ H s → RelV x v → RelV y u → wpAny (model X.prog X.w) X.A (f v u) (EP X pins σ Q) X.xe s
theorem rB_ok {X : Cx} {f : Value → Value → Sem Value} : OpR X f (rB X f) := fun pins s σ H x y v u Q I rx ry h => h pins s σ v u I rx ry
theorem rB_of {X : Cx} {f : Value → Value → Sem Value} {r : R2} (h : OpR X f r) {x y : V} {H : Hp} {Q : VK} (k : r x y H Q) : rB X f x y H Q := fun pins s σ v u I rx ry => h pins s σ H x y v u Q I rx ry k
def rC (X : Cx) (f : Value) : List V → Hp → VK → Prop := fun xs H Q => ∀ (pins : List (Addr × Obj)) (s : Shared) (σ : L2.St) (us : List Value), Inv X pins σ H s → Vals xs us → wpAny (model X.prog X.w) X.A (PySem.call f us) (EP X pins σ Q) X.xe s
theorem rC_ok {X : Cx} {f : Value} : CallR X f (rC X f) := fun pins s σ H xs us Q I r h => h pins s σ us I r
theorem rC_of {X : Cx} {f : Value} {r : List V → Hp → VK → Prop} (h : CallR X f r) {xs : List V} {H : Hp} {Q : VK} (k : r xs H Q) : rC X f xs H Q := fun pins s σ us I rx => h pins s σ H xs us Q I rx k
def rX (X : Cx) : R2 := fun x y H Q => ∀ (pins : List (Addr × Obj)) (s : Shared) (σ : L2.St) (v u : Value), Inv X pins σ H s → RelV x v → RelV y u → wpAny (model X.prog X.w) X.A (getItem v u) (EP X pins σ Q) X.xe s

def opOf : Bop → Operator
  | .add => .Add | .sub => .Sub | .mul => .Mult | .fdiv => .FloorDiv | .mod => .Mod | .pow => .Pow
def copOf : Cop → CmpOp
  | .eq => .Eq | .ne => .NotEq | .lt => .Lt | .le => .LtE | .gt => .Gt | .ge => .GtE | .isIn => .In | .notIn => .NotIn

theorem op_fdivX {X : Cx} : OpR X (binaryOp .FloorDiv) (rI (fun _ j => j ≠ 0 ∧ j.natAbs.log2 < 9000) fun i j => .int (i.fdiv j)) := opI fun i j _ _ _ _ _ hc q => PyProof.Rows.floordiv_int hc.1 q (.inl (PyProof.noPylong_of_log2 hc.2))

section
variable {X : Cx} {F : Frm} {τ : List (D × V)} {own : Own} {C : List Addr} {σd : Sl} {W : Ce} {σ : L2.St} {H : Hp} {R : VK}
theorem bin_snd {o : Bop} {x y : D} {vx vy : V} {Q : D → Prop} (hK : F.K = X.K) (s : Sim F τ own C σd W σ H) (rx : RepU F.K (Av F.P own) C H x vx) (ry : RepU F.K (Av F.P own) C H y vy)
    (k : binD o x y Q) (fin : ∀ z v H', Q z → Sim F ((z, v) :: τ) own C σd W σ H' → R v H') : rB X (binaryOp (opOf o)) vx vy H R := by
  unfold binD at k
  split at k
  · cases rx.int; cases ry.int
    exact rB_of op_add ⟨_, _, rfl, rfl, fin _ _ _ k (s.push (.inl (.int _)))⟩
  · obtain ⟨a, vs, rfl, h1, r1⟩ := rx.tup
    obtain ⟨b, ws, rfl, h2, r2⟩ := ry.tup
    rw [hK] at h1 h2
    refine rB_of op_catA ⟨a, b, vs, ws, rfl, rfl, h1, h2, by rw [← r1.length, ← r2.length]; exact k.1, fun e => ?_, fun _ e => ?_, fun _ _ p hp => ?_⟩
    · subst e
      cases r1
      exact fin _ _ _ k.2 (s.push (.inl (.tup (by rw [hK]; exact h2) r2)))
    · subst e
      cases r2
      rw [List.append_nil] at k
      exact fin _ _ _ k.2 (s.push (.inl (.tup (by rw [hK]; exact h1) r1)))
    · exact fin _ _ _ k.2 (s.newTup hp (r1.append r2))
  · obtain ⟨a, vs, rfl, h1, r1⟩ := rx.lst
    obtain ⟨b, ws, rfl, h2, r2⟩ := ry.lst
    exact rB_of op_cat ⟨a, b, vs, ws, rfl, rfl, h1, h2, by rw [← r1.length, ← r2.length]; exact k.1, fun p hp => fin _ _ _ k.2 (s.newLst hp (r1.append r2))⟩
  · cases rx.int; cases ry.int
    exact rB_of op_sub ⟨_, _, rfl, rfl, fin _ _ _ k (s.push (.inl (.int _)))⟩
  · cases rx.int; cases ry.int
    exact rB_of op_mulX ⟨_, _, rfl, rfl, k.1, fin _ _ _ k.2 (s.push (.inl (.int _)))⟩
  · obtain ⟨a, vs, rfl, h1, r1⟩ := rx.lst
    cases ry.int
    exact rB_of op_rep ⟨a, _, vs, rfl, rfl, h1, k.1.1, k.1.2.1, by rw [← r1.length]; exact k.1.2.2, fun p hp => fin _ _ _ k.2 (s.newLst hp (r1.rep _))⟩
  · obtain ⟨a, vs, rfl, h1, r1⟩ := rx.tup
    cases ry.int
    rw [hK] at h1
    refine rB_of op_repT ⟨a, _, vs, rfl, rfl, h1, fun e => ?_, k.1.2.1, k.1.2.2.1, by rw [← r1.length]; exact k.1.2.2.2, fun p hp => fin _ _ _ k.2 (s.newTup hp (r1.rep _))⟩
    subst e
    cases r1
    exact k.1.1 rfl
  · cases rx.int; cases ry.int
    exact rB_of op_fdivX ⟨_, _, rfl, rfl, k.1, fin _ _ _ k.2 (s.push (.inl (.int _)))⟩
  · cases rx.int; cases ry.int
    exact rB_of op_modN ⟨_, _, rfl, rfl, k.1, fin _ _ _ k.2 (s.push (.inl (.int _)))⟩
  · cases rx.int; cases ry.int
    exact rB_of op_pow ⟨_, _, rfl, rfl, k.1, fin _ _ _ k.2 (s.push (.inl (.int _)))⟩
  · exact k.elim

theorem fv_ok {K : PySem.W.Frag} {A : Addr → Prop} {d : D} {v : V} (f : flatD d = true) (r : Rep K A C H d v) : v = d.fv ∧ flatV v = true := by
  cases r <;> first | exact ⟨rfl, rfl⟩ | simp [flatD] at f
theorem fvs_ok {K : PySem.W.Frag} {A : Addr → Prop} : ∀ {ds : List D} {vs : List V}, ds.all flatD = true → Reps K A C H ds vs → vs = ds.map D.fv ∧ vs.all flatV = true
  | _, _, _, .nil => ⟨rfl, rfl⟩
  | _, _, f, .cons r t => by
    simp only [List.all_cons, Bool.and_eq_true] at f
    obtain ⟨e1, f1⟩ := fv_ok f.1 r
    obtain ⟨e2, f2⟩ := fvs_ok f.2 t
    subst e1 e2
    exact ⟨rfl, by rw [List.all_cons, f1, f2]; rfl⟩
theorem pys_any (y : PyData) : ∀ ys : List D, (pys ys).any (fun z => PyData.eqv z y) = ys.any fun d => PyData.eqv d.py y
  | [] => rfl
  | d :: ys => by
    rw [pys, List.any_cons, List.any_cons, pys_any y ys]
theorem cmp_snd {o : Cop} {x y : D} {vx vy : V} {Q : Bool → Prop} {n : Nat} (hK : F.K = X.K) (hr : Room n X.A) (s : Sim F τ own C σd W σ H) (rx : RepU F.K (Av F.P own) C H x vx) (ry : RepU F.K (Av F.P own) C H y vy)
    (k : cmpD o x y Q) (fin : ∀ z, Q z → R (.bl z) H) : rB X (compareOp (copOf o)) vx vy H R := by
  have hu : X.A.units + 65 < cLine := by have := hr.un; omega
  have hu0 : X.A.units + 64 < cLine := by omega
  unfold cmpD at k
  split at k
  · cases rx.int; cases ry.int
    exact rB_of op_lt ⟨_, _, rfl, rfl, fin _ k⟩
  · cases rx.int; cases ry.int
    exact rB_of op_le ⟨_, _, rfl, rfl, fin _ k⟩
  · cases rx.int; cases ry.int
    exact rB_of op_gt ⟨_, _, rfl, rfl, fin _ k⟩
  · cases rx.int; cases ry.int
    exact rB_of op_ge ⟨_, _, rfl, rfl, fin _ k⟩
  · cases rx.int; cases ry.int
    refine rB_of op_eq ⟨rfl, ?_⟩
    rw [dec_int, Bool.beq_eq_decide_eq]
    exact fin _ k
  · cases rx.int; cases ry.int
    refine rB_of op_ne ⟨rfl, ?_⟩
    rw [dec_int, Bool.beq_eq_decide_eq]
    exact fin _ k
  · cases rx.str; cases ry.str
    refine rB_of op_eq ⟨rfl, ?_⟩
    rw [dec_str, Bool.beq_eq_decide_eq]
    exact fin _ k
  · cases rx.str; cases ry.str
    refine rB_of op_ne ⟨rfl, ?_⟩
    rw [dec_str, Bool.beq_eq_decide_eq]
    exact fin _ k
  · have e := k.1
    simp only [eqOk, Bool.and_eq_true] at e
    have d1 := rx.dp e.1.1.1
    have d2 := ry.dp e.1.1.2
    rw [hK] at d1 d2
    exact rB_of (op_eqD hu0) ⟨_, _, d1, d2, e.1.2, e.2, fin _ k.2⟩
  · have e := k.1
    simp only [eqOk, Bool.and_eq_true] at e
    have d1 := rx.dp e.1.1.1
    have d2 := ry.dp e.1.1.2
    rw [hK] at d1 d2
    exact rB_of (op_neD hu0) ⟨_, _, d1, d2, e.1.2, e.2, fin _ k.2⟩
  · have e := k.1
    rw [Bool.and_eq_true] at e
    obtain ⟨b, vs, rfl, h1, r1⟩ := ry.tup
    obtain ⟨e2, f2⟩ := fvs_ok e.2 r1
    rcases rx with r | ⟨_, _, _, e3, _⟩ | e3
    · obtain ⟨e4, f4⟩ := fv_ok e.1 r
      subst e4 e2
      rw [hK] at h1
      exact rB_of op_in_seq ⟨b, _, rfl, .inr h1, f4, f2, fin _ k.2⟩
    · subst e3; simp [flatD] at e
    · cases x <;> first | (simp [flatD] at e; done) | (cases e3; done)
  · have e := k.1
    rw [Bool.and_eq_true] at e
    obtain ⟨b, vs, rfl, h1, r1⟩ := ry.tup
    obtain ⟨e2, f2⟩ := fvs_ok e.2 r1
    rcases rx with r | ⟨_, _, _, e3, _⟩ | e3
    · obtain ⟨e4, f4⟩ := fv_ok e.1 r
      subst e4 e2
      rw [hK] at h1
      exact rB_of op_notIn_seq ⟨b, _, rfl, .inr h1, f4, f2, fin _ k.2⟩
    · subst e3; simp [flatD] at e
    · cases x <;> first | (simp [flatD] at e; done) | (cases e3; done)
  · have e := k.1
    simp only [eqOk, Bool.and_eq_true] at e
    have d1 := rx.dp e.1.1.1
    have d2 := ry.dp e.1.1.2
    rw [hK] at d1 d2
    simp only [D.py] at d2 e
    refine rB_of (op_inD hu) ⟨_, _, d1, d2, e.1.2, e.2, ?_⟩
    rw [pys_any]
    exact fin _ k.2
  · have e := k.1
    simp only [eqOk, Bool.and_eq_true] at e
    have d1 := rx.dp e.1.1.1
    have d2 := ry.dp e.1.1.2
    rw [hK] at d1 d2
    simp only [D.py] at d2 e
    refine rB_of (op_notInD hu) ⟨_, _, d1, d2, e.1.2, e.2, ?_⟩
    rw [pys_any]
    exact fin _ k.2
  · exact k.elim
end
end Bn

set_option Elab.async false
set_option linter.all false
set_option maxRecDepth 100000
/-! Bn, part 5: built-in functions. -/
namespace Bn
open PySem L2

mutual
theorem py_noDict : ∀ d : D, d.py.hasDict = false
  | .non | .bl _ | .int _ | .str _ | .scr _ | .cell _ | .bor _ | .pin _ _ => by simp [D.py, PyData.hasDict]
  | .tup xs | .lst xs => by
    simp only [D.py, PyData.hasDict]
    exact pys_noDict xs
theorem pys_noDict : ∀ xs : List D, PyData.hasDictAll (pys xs) = false
  | [] => by simp [pys, PyData.hasDictAll]
  | x :: xs => by
    simp only [pys, PyData.hasDictAll, py_noDict x, pys_noDict xs, Bool.or_self]
end

theorem call_repr {X : Cx} (hg : X.A.guards = some []) (hu : X.A.units + 64 < cLine) : CallR X (.builtin "repr") (fun xs H Q => ∃ v d, xs = [v] ∧ Dp X.K H v d ∧ d.hasDict = false ∧ d.showable = true ∧ d.depth ≤ 60 ∧ d.shown.length ≤ sizeLine ∧ Q (.str d.shown) H) := by
  intro pins s σ H xs us Q I r h
  obtain ⟨v, d, rfl, hd, hn, hs, hp, hz, q⟩ := h
  obtain ⟨u, rfl, rv⟩ := vals1 r
  obtain ⟨as, rd⟩ := Dp.reads I d v u hd rv
  cases hd with
  | non =>
    cases rv
    exact PySem.P.repr_of_none ⟨.str _, H, I.tok _, ⟨_, rfl⟩, by simpa [PyData.shown] using q⟩
  | bl b =>
    cases rv
    exact PySem.P.repr_of_bool ⟨.str _, H, I.tok _, ⟨_, rfl⟩, by simpa [PyData.shown] using q⟩
  | int i =>
    obtain ⟨t, rfl⟩ := rv
    exact PySem.P.repr_of_int (by simpa [PyData.showable] using hs) ⟨.str _, H, I.tok _, ⟨_, rfl⟩, by simpa [PyData.shown] using q⟩
  | str x =>
    obtain ⟨t, rfl⟩ := rv
    exact PySem.P.repr_of_str ⟨.str _, H, I.tok _, ⟨_, rfl⟩, by simpa [PyData.shown] using q⟩ (by simpa [PyData.shown] using hz)
  | lst hs' ha =>
    cases rv
    exact repr_of_reads' rd hs (fun e => by rw [hn] at e; cases e) hg (by omega) (fun _ _ e => e) (fun h' u tk k => ⟨.str _, H, I.kept (t' := tk) k, ⟨_, rfl⟩, q⟩) hz
  | tup hs' ha =>
    cases rv
    exact repr_of_reads' rd hs (fun e => by rw [hn] at e; cases e) hg (by omega) (fun _ _ e => e) (fun h' u tk k => ⟨.str _, H, I.kept (t' := tk) k, ⟨_, rfl⟩, q⟩) hz
theorem call_isqrt {X : Cx} : CallR X (.builtin "math.isqrt") (fun xs H Q => ∃ a : Int, xs = [.int a] ∧ (0 ≤ a ∧ a.toNat.log2 < 13000) ∧ Q (.int ((Float64.isqrt a.toNat : Nat) : Int)) H) := by
  intro pins s σ H xs us Q I r h
  obtain ⟨a, rfl, ⟨h0, h1⟩, q⟩ := h
  obtain ⟨u, rfl, t, rfl⟩ := vals1 r
  exact call_function_meets PySem.W.MGF.kind_isqrt PySem.W.MGF.plain_isqrt PySem.W.MGF.entry_isqrt (PySem.W.MGF.args_isqrt _) (PySem.W.mg_run_isqrt a t (by omega) (by omega) (by omega)).meets ⟨.int _, H, I.tok _, ⟨_, rfl⟩, q⟩

/-- how a built-in is called: its name, the function, whether it is of the module math -/
def biName : Bi → Str
  | .int1 => "int" | .abs => "abs" | .divmod => "divmod" | .len => "len" | .max2 => "max" | .min2 => "min" | .gcd => "gcd" | .isqrt => "isqrt" | .tuple1 => "tuple" | .list1 => "list"
  | .all1 => "all" | .any1 => "any" | .sum1 => "sum" | .repr1 => "repr"
def biVal : Bi → Value
  | .int1 => .type "int" | .abs => .builtin "abs" | .divmod => .builtin "divmod" | .len => .builtin "len" | .max2 => .builtin "max" | .min2 => .builtin "min" | .gcd => .builtin "math.gcd" | .isqrt => .builtin "math.isqrt"
  | .tuple1 => .type "tuple" | .list1 => .type "list" | .all1 => .builtin "all" | .any1 => .builtin "any" | .sum1 => .builtin "sum" | .repr1 => .builtin "repr"

section
variable {K : PySem.W.Frag} {A : Addr → Prop} {C : List Addr} {H : Hp}
theorem allBl_ok : ∀ {ds : List D} {vs : List V} {bs : List Bool}, allBl ds = some bs → Reps K A C H ds vs → vs = bs.map V.bl
  | _, _, bs, e, .nil => by
    have e' : some [] = some bs := e
    cases e'
    rfl
  | d :: ds, _, bs, e, .cons r t => by
    cases r with
    | bl b =>
      have e' : (allBl ds).map (b :: ·) = some bs := e
      rw [Option.map_eq_some_iff] at e'
      obtain ⟨bs', e1, e2⟩ := e'
      subst e2
      rw [allBl_ok e1 t]
      rfl
    | _ => exact absurd e (by simp [allBl])
theorem allInt_ok : ∀ {ds : List D} {vs : List V} {bs : List Int}, allInt ds = some bs → Reps K A C H ds vs → vs = bs.map V.int
  | _, _, bs, e, .nil => by
    have e' : some [] = some bs := e
    cases e'
    rfl
  | d :: ds, _, bs, e, .cons r t => by
    cases r with
    | int b =>
      have e' : (allInt ds).map (b :: ·) = some bs := e
      rw [Option.map_eq_some_iff] at e'
      obtain ⟨bs', e1, e2⟩ := e'
      subst e2
      rw [allInt_ok e1 t]
      rfl
    | _ => exact absurd e (by simp [allInt])
end

inductive RepUs (K : PySem.W.Frag) (A : Addr → Prop) (C : List Addr) (H : Hp) : List D → List V → Prop
  | nil : RepUs K A C H [] []
  | cons {d : D} {ds : List D} {v : V} {vs : List V} : RepU K A C H d v → RepUs K A C H ds vs → RepUs K A C H (d :: ds) (v :: vs)
section
variable {X : Cx} {F : Frm} {τ : List (D × V)} {own : Own} {C : List Addr} {σd : Sl} {W : Ce} {σ : L2.St} {H : Hp} {R : VK}
theorem bi_snd {b : Bi} {ds : List D} {vs : List V} {Q : D → Prop} {n : Nat} (hK : F.K = X.K) (hc : X.calm = true) (hg : X.A.guards = some []) (hr : Room n X.A) (s : Sim F τ own C σd W σ H) (rs : RepUs F.K (Av F.P own) C H ds vs)
    (k : biD b ds Q) (fin : ∀ z v H', Q z → Sim F ((z, v) :: τ) own C σd W σ H' → R v H') : rC X (biVal b) vs H R := by
  have hu0 : X.A.units + 64 < cLine := by have := hr.un; omega
  unfold biD at k
  split at k
  · cases rs with
    | cons r rr =>
      cases rr
      cases r.int
      exact rC_of call_int1 (.inl ⟨_, rfl, fin _ _ _ k (s.push (.inl (.int _)))⟩)
  · cases rs with
    | cons r rr =>
      cases rr
      cases r.bl
      exact rC_of call_int1 (.inr ⟨_, rfl, fin _ _ _ k (s.push (.inl (.int _)))⟩)
  · cases rs with
    | cons r rr =>
      cases rr
      cases r.int
      exact rC_of call_abs ⟨_, rfl, fin _ _ _ k (s.push (.inl (.int _)))⟩
  · cases rs with
    | cons r rr =>
      cases rr with
      | cons r' rr =>
        cases rr
        cases r.int; cases r'.int
        exact rC_of call_divmod ⟨_, _, rfl, k.1, fun p hp => fin _ _ _ k.2 (s.newTup hp (.cons (.int _) (.cons (.int _) .nil)))⟩
  · cases rs with
    | cons r rr =>
      cases rr
      obtain ⟨a, vs, rfl, h1, r1⟩ := r.tup
      rw [hK] at h1
      rw [r1.length] at k
      exact rC_of call_len_seq ⟨a, vs, rfl, .inr h1, fin _ _ _ k (s.push (.inl (.int _)))⟩
  · cases rs with
    | cons r rr =>
      cases rr
      obtain ⟨a, vs, rfl, h1, r1⟩ := r.lst
      rw [r1.length] at k
      exact rC_of call_len_seq ⟨a, vs, rfl, .inl (SqL.of h1), fin _ _ _ k (s.push (.inl (.int _)))⟩
  · cases rs with
    | cons r rr =>
      cases rr
      obtain ⟨a, rfl, h1⟩ := r.scr
      rw [hK] at h1
      refine rC_of call_len_seq ⟨a, _, rfl, .inl h1.sq, ?_⟩
      rw [List.length_map]
      exact fin _ _ _ k (s.push (.inl (.int _)))
  · cases rs with
    | cons r rr =>
      cases rr with
      | cons r' rr =>
        cases rr
        cases r.int; cases r'.int
        exact rC_of (call_max2 hc) ⟨_, _, rfl, fin _ _ _ k (s.push (.inl (.int _)))⟩
  · cases rs with
    | cons r rr =>
      cases rr with
      | cons r' rr =>
        cases rr
        cases r.int; cases r'.int
        exact rC_of (call_min2 hc) ⟨_, _, rfl, fin _ _ _ k (s.push (.inl (.int _)))⟩
  · cases rs with
    | cons r rr =>
      cases rr with
      | cons r' rr =>
        cases rr
        cases r.int; cases r'.int
        exact rC_of cr_gcd ⟨_, _, rfl, fin _ _ _ k (s.push (.inl (.int _)))⟩
  · cases rs with
    | cons r rr =>
      cases rr
      cases r.int
      exact rC_of call_isqrt ⟨_, rfl, k.1, fin _ _ _ k.2 (s.push (.inl (.int _)))⟩
  · cases rs with
    | cons r rr =>
      cases rr
      obtain ⟨a, vs, rfl, h1, r1⟩ := r.tup
      have h1' := h1
      rw [hK] at h1'
      exact rC_of call_tuple_of ⟨a, vs, rfl, .inr ⟨h1', fin _ _ _ k (s.push (.inl (.tup h1 r1)))⟩⟩
  · cases rs with
    | cons r rr =>
      cases rr
      obtain ⟨a, vs, rfl, h1, r1⟩ := r.lst
      exact rC_of call_tuple_of ⟨a, vs, rfl, .inl ⟨SqL.of h1, fun p hp => fin _ _ _ k (s.newTup hp r1)⟩⟩
  · cases rs with
    | cons r rr =>
      cases rr
      obtain ⟨a, vs, rfl, h1, r1⟩ := r.tup
      rw [hK] at h1
      exact rC_of call_list_of ⟨a, vs, rfl, .inr h1, fun p hp => fin _ _ _ k (s.newLst hp r1)⟩
  · cases rs with
    | cons r rr =>
      cases rr
      obtain ⟨a, vs, rfl, h1, r1⟩ := r.lst
      exact rC_of call_list_of ⟨a, vs, rfl, .inl (SqL.of h1), fun p hp => fin _ _ _ k (s.newLst hp r1)⟩
  · cases rs with
    | cons r rr =>
      cases rr
      obtain ⟨a, vs, rfl, h1, r1⟩ := r.lst
      split at k
      · rename_i bs e
        have e' := allBl_ok e r1
        subst e'
        exact rC_of (cr_all hc) ⟨a, bs, rfl, SqL.of h1, fin _ _ _ k (s.push (.inl (.bl _)))⟩
      · exact k.elim
  · cases rs with
    | cons r rr =>
      cases rr
      obtain ⟨a, vs, rfl, h1, r1⟩ := r.lst
      split at k
      · rename_i bs e
        have e' := allBl_ok e r1
        subst e'
        exact rC_of (cr_any hc) ⟨a, bs, rfl, SqL.of h1, fin _ _ _ k (s.push (.inl (.bl _)))⟩
      · exact k.elim
  · cases rs with
    | cons r rr =>
      cases rr
      obtain ⟨a, vs, rfl, h1, r1⟩ := r.lst
      split at k
      · rename_i bs e
        have e' := allInt_ok e r1
        subst e'
        exact rC_of (cr_sum hc) ⟨a, bs, rfl, SqL.of h1, fin _ _ _ k (s.push (.inl (.int _)))⟩
      · exact k.elim
  · cases rs with
    | cons r rr =>
      cases rr
      have d1 := r.dp k.1.1
      rw [hK] at d1
      exact rC_of (call_repr hg hu0) ⟨_, _, rfl, d1, py_noDict _, k.1.2.1, k.1.2.2.1, k.1.2.2.2, fin _ _ _ k.2 (s.push (.inl (.str _)))⟩
  · exact k.elim

/-- the types that isinstance is asked for -/
def tyName : Nat → String
  | 0 => "int" | 1 => "bool" | 2 => "tuple" | 3 => "list" | _ => "str"
theorem isi_snd {T : Nat} {x : D} {vx : V} {b : Bool} (hT : T < 5) (hK : F.K = X.K) (s : Sim F τ own C σd W σ H) (rx : RepU F.K (Av F.P own) C H x vx) (k : isiD T x = some b) (fin : R (.bl b) H) :
    rC X (.builtin "isinstance") [vx, .ty (tyName T)] H R := by
  have key : ∀ (n : String), TyX X.K H vx (.type n) → kitB n (tyName T) = some b → rC X (.builtin "isinstance") [vx, .ty (tyName T)] H R := fun n ty e =>
    rC_of call_isi ⟨vx, _, _, _, b, rfl, .ty _, ty, kit_ty e, fin⟩
  have cs : T = 0 ∨ T = 1 ∨ T = 2 ∨ T = 3 ∨ T = 4 := by omega
  unfold isiD at k
  split at k
  · cases rx.non
    refine key "NoneType" (.base .non) ?_
    cases k
    rcases cs with rfl | rfl | rfl | rfl | rfl <;> decide +kernel
  · cases rx.bl
    refine key "bool" (.base (.bl _)) ?_
    cases k
    rcases cs with rfl | rfl | rfl | rfl | rfl <;> decide +kernel
  · cases rx.int
    refine key "int" (.base (.int _)) ?_
    cases k
    rcases cs with rfl | rfl | rfl | rfl | rfl <;> decide +kernel
  · cases rx.str
    refine key "str" (.base (.str _)) ?_
    cases k
    rcases cs with rfl | rfl | rfl | rfl | rfl <;> decide +kernel
  · obtain ⟨a, vs, rfl, h1, r1⟩ := rx.tup
    rw [hK] at h1
    refine key "tuple" ?_ ?_
    · rcases h1 with (h1 | ⟨o, h1⟩) | ⟨o, its, n, e1, e2, _⟩
      · exact .base (.tup h1)
      · exact .fTuple h1
      · exact .kTuple e1 e2
    · cases k
      rcases cs with rfl | rfl | rfl | rfl | rfl <;> decide +kernel
  · obtain ⟨a, vs, rfl, h1, r1⟩ := rx.lst
    refine key "list" (.base (.lst h1)) ?_
    cases k
    rcases cs with rfl | rfl | rfl | rfl | rfl <;> decide +kernel
  · cases k
end
end Bn

set_option Elab.async false
set_option linter.all false
set_option maxRecDepth 100000
/-! Bn, part 6: calls of defs where no guard stands around (repr asks it). -/
namespace Bn
open PySem PySem.Spec PyProof.Rows L2

abbrev SpG := List V → Hp → VK → Prop
structure FnG (P : Program) (w : World) (K : PySem.W.Frag) (mg : Str → Option Value) (base : Heap) (k : Nat) (f : Addr) (fd : FuncData) (ps : List Str) (sp : SpG) : Prop where
  len : ∀ vs H Q, sp vs H Q → vs.length = ps.length
  go : ∀ (A : Around) (out : List PySem.Env) (s : Shared) (H : Hp) (ar : Args) (us : List Value) (vs : List V) (Q : VK), Room k A → A.guards = some [] → Env0 P w K mg base A out s H →
    BindsTo s fd ar (ps.zip us) → Vals vs us → sp vs H Q → codeAny (model P w) A (.call (.ref f) ar) (CR CX0 out P w H s Q fun _ _ _ => False) s

section
variable {X : Cx} {k : Nat} {f : Addr} {fd : FuncData} {ps : List Str} {sp : SpG} {x : Str} {p pos : Pos} {e : Expr} {es : List Expr} {kws : List Keyword} {t tk : TA}
theorem enterG {pins : List (Addr × Obj)} {σ : L2.St} {H : Hp} {s : Shared} {Q : VK} {us : List Value} {kw : List (Str × Value)} {us' : List Value} {vs' : List V} (Fk : FnG X.prog X.w X.K X.mg X.base k f fd ps sp) (hr : Room k X.A) (hg : X.A.guards = some [])
    (I : Inv X pins σ H s) (hb : BindsTo s fd ⟨us, kw⟩ (ps.zip us')) (r : Vals vs' us') (h : sp vs' H Q) : wpAny (model X.prog X.w) X.A (PySem.call (.ref f) us kw) (EP X pins σ Q) X.xe s := by
  have c := Fk.go X.A X.stack s H ⟨us, kw⟩ us' vs' Q hr hg I.env0 hb r h
  refine wpAny_call (codeAny_mono c fun res s2 hres => ?_)
  match res, hres with
  | .error _, z => exact False.elim z
  | .ok .next, z => exact False.elim z
  | .ok .brk, z => exact False.elim z
  | .ok .cont, z => exact False.elim z
  | .ok (.ret u), z => exact I.after z

def tG (sp : SpG) (t : TA) : TE := fun σ H Q => t σ H fun vs H1 => sp vs H1 Q
theorem pe_G (Fk : FnG X.prog X.w X.K X.mg X.base k f fd ps sp) (hr : Room k X.A) (hg : X.A.guards = some []) (hx : Gl X x) (hm : X.mg x = some (.ref f)) (hk : PySem.W.keepIn X.K (.ref f) = true)
    (hb : ∀ (s : Shared) (us : List Value), us.length = ps.length → BindsTo s fd ⟨us, []⟩ (ps.zip us)) (ha : PA X (e :: es) t) (hd : (x == ("__debug__" : Str)) = false)
    (he : starEach (e :: es) X.env = (false, eval e X.env) :: starEach es X.env) (hp : (backTo pos (starEach es X.env)).any (·.1) = false) : PE X (.Call (.Name x p) (e :: es) [] pos) (tG sp t) := by
  refine ⟨fun pins s σ H Q I h => wpAny_Call_Name_kw (ld_glob I hx hm (PySem.W.callWith_K (h₀ := X.base) I.ok.mod.kin hk (thn (ha.run pos pins s σ H _ I h) fun us s1 hh => ?_) he hp) hd)⟩
  obtain ⟨vs, H1, I1, r, q⟩ := hh
  exact ⟨I1.kIn, enterG Fk hr hg I1 (hb s1 us (by rw [← r.length]; exact Fk.len _ _ _ q)) r q⟩

def permV (pl : List Nat) (us : List Value) : List Value := pl.map fun i => us.getD i .none
def permW (pl : List Nat) (us : List V) : List V := pl.map fun i => us.getD i .non
theorem vals_getD : ∀ {vs : List V} {us : List Value} (i : Nat), Vals vs us → RelV (vs.getD i .non) (us.getD i .none)
  | _, _, _, .nil => rfl
  | _, _, 0, .cons r _ => r
  | _, _, i + 1, .cons _ t => by
    simp only [List.getD_cons_succ]
    exact vals_getD i t
theorem vals_perm {vs : List V} {us : List Value} (h : Vals vs us) : ∀ pl : List Nat, Vals (permW pl vs) (permV pl us)
  | [] => .nil
  | i :: pl => .cons (vals_getD i h) (vals_perm h pl)
/-- how keywords bind -/
def KwB (fd : FuncData) (ps : List Str) (n : Nat) (ks : List Str) (pl : List Nat) : Prop :=
  ∀ (s : Shared) (us ws : List Value), us.length = n → ws.length = ks.length → BindsTo s fd ⟨us, ks.zip ws⟩ (ps.zip (permV pl (us ++ ws)))
def tGK (n m : Nat) (pl : List Nat) (sp : SpG) (t tk : TA) : TE := fun σ H Q => t σ H fun vs H1 => tk σ H1 fun zs H2 => vs.length = n ∧ zs.length = m ∧ sp (permW pl (vs ++ zs)) H2 Q
theorem finK {n : Nat} {ks : List Str} {pl : List Nat} (Fk : FnG X.prog X.w X.K X.mg X.base k f fd ps sp) (hr : Room k X.A) (hg : X.A.guards = some []) (hb : KwB fd ps n ks pl) (hw : PK X kws tk)
    {pins : List (Addr × Obj)} {σ : L2.St} {H1 : Hp} {s1 : Shared} {Q : VK} {us : List Value} {vs : List V} (I1 : Inv X pins σ H1 s1) (r : Vals vs us) (q : tk σ H1 (fun zs H2 => vs.length = n ∧ zs.length = ks.length ∧ sp (permW pl (vs ++ zs)) H2 Q)) :
    wpAny (model X.prog X.w) X.A (evalAll ((backToKw pos (keywordEach kws X.env)).map (·.2))) (fun ws s₂ => X.K.In s₂.heap ∧ wpAny (model X.prog X.w) X.A (PySem.call (.ref f) us (ks.zip ws)) (EP X pins σ Q) X.xe s₂) X.xe s1 := by
  refine thn (hw.run pos pins s1 σ H1 _ I1 q) fun ws s2 hh => ?_
  obtain ⟨zs, H2, I2, rz, l1, l2, q2⟩ := hh
  exact ⟨I2.kIn, enterG Fk hr hg I2 (hb s2 us ws (r.length.symm.trans l1) (rz.length.symm.trans l2)) (vals_perm (r.append rz) pl) q2⟩
theorem pe_GK {n : Nat} {ks : List Str} {pl : List Nat} (Fk : FnG X.prog X.w X.K X.mg X.base k f fd ps sp) (hr : Room k X.A) (hg : X.A.guards = some []) (hx : Gl X x) (hm : X.mg x = some (.ref f)) (hk : PySem.W.keepIn X.K (.ref f) = true)
    (hb : KwB fd ps n ks pl) (ha : PA X (e :: es) t) (hw : PK X kws tk) (hd : (x == ("__debug__" : Str)) = false) (hall : (backToKw pos (keywordEach kws X.env)).all (·.1.isSome) = true) (hks : (backToKw pos (keywordEach kws X.env)).filterMap (·.1) = ks)
    (he : starEach (e :: es) X.env = (false, eval e X.env) :: starEach es X.env) (hp : ((backTo pos (starEach (e :: es) X.env)).any (·.1) || (backToKw pos (keywordEach kws X.env)).any (·.1.isNone)) = false) :
    PE X (.Call (.Name x p) (e :: es) kws pos) (tGK n ks.length pl sp t tk) := by
  refine ⟨fun pins s σ H Q I h => wpAny_Call_Name_kw (ld_glob I hx hm ?_ hd)⟩
  refine PySem.W.callWith_KW (h₀ := X.base) I.ok.mod.kin hk hall (thn (ha.run pos pins s σ H _ I h) fun us s1 hh => ?_) hp he
  obtain ⟨vs, H1, I1, r, q⟩ := hh
  rw [hks]
  exact finK Fk hr hg hb hw I1 r q
theorem pe_GK0 {ks : List Str} {pl : List Nat} (Fk : FnG X.prog X.w X.K X.mg X.base k f fd ps sp) (hr : Room k X.A) (hg : X.A.guards = some []) (hx : Gl X x) (hm : X.mg x = some (.ref f)) (hk : PySem.W.keepIn X.K (.ref f) = true)
    (hb : KwB fd ps 0 ks pl) (hw : PK X kws tk) (hd : (x == ("__debug__" : Str)) = false) (hall : (backToKw pos (keywordEach kws X.env)).all (·.1.isSome) = true) (hks : (backToKw pos (keywordEach kws X.env)).filterMap (·.1) = ks)
    (hp : ((backTo pos (starEach [] X.env)).any (·.1) || (backToKw pos (keywordEach kws X.env)).any (·.1.isNone)) = false) :
    PE X (.Call (.Name x p) [] kws pos) (tGK 0 ks.length pl sp tNil tk) := by
  refine ⟨fun pins s σ H Q I h => wpAny_Call_Name_kw (ld_glob I hx hm ?_ hd)⟩
  refine PySem.W.callWith_KW0 (h₀ := X.base) I.ok.mod.kin hk hall ?_ hp
  rw [hks]
  exact finK Fk hr hg hb hw (us := []) (vs := []) I .nil h
end

section
variable {P : Program} {w : World} {K : PySem.W.Frag} {mg : Str → Option Value} {base : Heap}
/-- a def keeps its promise by its body -/
theorem Fun.okG {x qual : Str} {st : Stmt} {f : Addr} {fd : FuncData} {N ps : List Str} {k : Nat} {sp : SpG} (Fn : Fun K x qual st f fd) (Sc : FnScope N ps (defScope st)) (len : ∀ vs H Q, sp vs H Q → vs.length = ps.length)
    (body : ∀ (cdv : Value) (A : Around) (out : List PySem.Env) (s : Shared) (H : Hp) (vs : List V) (Q : VK), Room k (A.deeper (envOfC qual (defScope st) s.heap.objs.size f cdv)) → A.guards = some [] → sp vs H Q →
      ∃ t, PSs (cxOf CX0 P w K mg base N qual (defScope st) f cdv A out s H fun _ _ _ => False).nox (defBody st) t ∧ t { nx := fun _ H' => Q .non H', rt := Q } (start N vs) H) : FnG P w K mg base (k + 1) f fd ps sp := by
  obtain ⟨oc, od, kV, doc, pm, an, cdv, ct, osl, hfd, lk, hcd⟩ := Fn.ex
  refine ⟨len, fun A out s H ar us vs Q hr hg e0 hb r h => ?_⟩
  have kin : K.In s.heap := e0.mod.kin.keeps fun b o e => (e0.bs b o e).1
  have lim : s.heap.NoLimit := e0.mod.nolimit.keeps fun b o e => (e0.bs b o e).1
  subst hfd
  have kinds : ∀ y ∈ ps.zip us, (defScope st).names.lookup y.1 = some .local ∨ ((defScope st).names.lookup y.1 = some .cell ∧ ((cellsFrom (s.heap.objs.size + 1) (defScope st).names []).lookup y.1).isSome = true) := by
    intro y hy
    rcases Sc.par y.1 (List.of_mem_zip (a := y.1) (b := y.2) hy).1 with q | q
    · exact Or.inl q
    · exact Or.inr ⟨q, PySem.W.cellsFrom_some _ _ _ (Or.inl q)⟩
  refine codeAny_call_function hr.depth (kin _ _ lk) rfl Sc.co Sc.gen rfl (PySem.W.codeRec_of kin hcd) (hb _ _ _ _ (wpAny_newFunctionEnv_cells Sc.kind kinds fun env he s1 ic => ?_))
  subst he
  refine ⟨lim.keeps ic.toInCall.keep, codeAny_func ?_⟩
  obtain ⟨t, ht, hq⟩ := body cdv A out s H vs Q (hr.deeper _) hg h
  have J : Inv (cxOf CX0 P w K mg base N qual (defScope st) f cdv A out s H fun _ _ _ => False) [] (start N vs) H s1 := inv_start Sc hr.hd e0 (len _ _ _ h) r ic
  refine wpAny_mono (ht.nox.run [] s1 (start N vs) H _ J hq) (fun fl s2 h2 => ?_) fun _ _ h2 => h2
  match fl, h2 with
  | .ret u, ⟨v, σ', H', J', rv, q⟩ => exact ⟨v, H', J'.os, J'.bare, J'.base, J'.hok, rv, q⟩
  | .next, ⟨σ', H', J', q⟩ => exact ⟨V.non, H', J'.os, J'.bare, J'.base, J'.hok, rfl, q⟩
  | .brk, ⟨_, _, _, q⟩ => exact False.elim q
  | .cont, ⟨_, _, _, q⟩ => exact False.elim q
end
theorem guards_deeper (A : Around) (env : PySem.Env) (h : A.guards = some []) : (A.deeper env).guards = some [] := by
  exact h
end Bn

set_option Elab.async false
set_option linter.all false
set_option maxRecDepth 100000
/-! Bn, part 7: what the small syntax means is so of the code: expressions. -/
namespace Bn
open PySem PySem.Spec PyProof.Rows L2

/-! ### the best readings -/
def bE (X : Cx) (ex : Expr) : TE := fun σ H Q => ∀ (pins : List (Addr × Obj)) (s : Shared), Inv X pins σ H s → wpAny (model X.prog X.w) X.A (eval ex X.env) (EP X pins σ Q) X.xe s
theorem bE_ok {X : Cx} {ex : Expr} : PE X ex (bE X ex) := ⟨fun pins s σ H Q I h => h pins s I⟩
theorem bE_of {X : Cx} {ex : Expr} {t : TE} (h : PE X ex t) {σ : L2.St} {H : Hp} {Q : VK} (k : t σ H Q) : bE X ex σ H Q := fun pins s I => h.run pins s σ H Q I k
def bT (X : Cx) (ex : Expr) : TT := fun σ H Q => ∀ (pins : List (Addr × Obj)) (s : Shared), Inv X pins σ H s → wpAny (model X.prog X.w) X.A (isTrue ex X.env (eval ex X.env)) (TP X pins σ Q) X.xe s
theorem bT_ok {X : Cx} {ex : Expr} : PT X ex (bT X ex) := ⟨fun pins s σ H Q I h => h pins s I⟩
theorem bT_of {X : Cx} {ex : Expr} {t : TT} (h : PT X ex t) {σ : L2.St} {H : Hp} {Q : Bool → Hp → Prop} (k : t σ H Q) : bT X ex σ H Q := fun pins s I => h.run pins s σ H Q I k
def bW (X : Cx) (ex : Expr) : TT := fun σ H Q => ∀ (whole : Sem Value) (pins : List (Addr × Obj)) (s : Shared), Inv X pins σ H s → wpAny (model X.prog X.w) X.A (isTrue ex X.env whole) (TP X pins σ Q) X.xe s
theorem bW_ok {X : Cx} {ex : Expr} : PW X ex (bW X ex) := ⟨fun wh pins s σ H Q I h => h wh pins s I⟩
theorem bW_of {X : Cx} {ex : Expr} {t : TT} (h : PW X ex t) {σ : L2.St} {H : Hp} {Q : Bool → Hp → Prop} (k : t σ H Q) : bW X ex σ H Q := fun wh pins s I => h.run wh pins s σ H Q I k
def bA (X : Cx) (es : List Expr) : TA := fun σ H Q => ∀ (pos : Pos) (pins : List (Addr × Obj)) (s : Shared), Inv X pins σ H s → wpAny (model X.prog X.w) X.A (spliced (backTo pos (starEach es X.env))) (AP X pins σ Q) X.xe s
theorem bA_ok {X : Cx} {es : List Expr} : PA X es (bA X es) := ⟨fun pos pins s σ H Q I h => h pos pins s I⟩
theorem bA_of {X : Cx} {es : List Expr} {t : TA} (h : PA X es t) {σ : L2.St} {H : Hp} {Q : List V → Hp → Prop} (k : t σ H Q) : bA X es σ H Q := fun pos pins s I => h.run pos pins s σ H Q I k

/-! ### the static part -/
structure Info where
  fns : List (Str × List Str)
  consts : List Str
  kws : List (Nat × Nat × List Str × List Nat)
  mth : List Str
structure Pl where
  N : List Str
  sc : Scope
  fn : Str → Bool
structure CellsOk (K : PySem.W.Frag) (P : Addr → Prop) (C : List Addr) (W : Ce) (H : Hp) : Prop where
  cl : C.length = W.length
  ce : ∀ (k : Nat) (a : Addr) (ds : List D), C[k]? = some a → W[k]? = some ds → ∃ vs, H a = some (.lst vs) ∧ Reps K P C H ds vs
  cn : C.Nodup
  cp : ∀ a ∈ C, ¬ P a
/-- what a def promises -/
def spF (G : Env) (K : PySem.W.Frag) (i : Nat) : SpG := fun vs H Q => ∃ (ds : List D) (P : Addr → Prop) (C : List Addr) (W : Ce), Reps K P C H ds vs ∧ (∀ a, P a → ∃ xs, H a = some (.lst xs)) ∧ CellsOk K P C W H ∧
  G.call i ds W fun d W' => ∀ v H' C', (∀ (k : Nat) (a : Addr), C[k]? = some a → C'[k]? = some a) → (∀ a ∈ C', a ∈ C ∨ H a = none) → CellsOk K P C' W' H' → Keep (· ∈ C) H H' → Rep K P C' H' d v → Q v H'
structure Facts (Γ : Info) (G : Env) (k : Nat) (X : Cx) : Prop where
  fn : ∀ (i : Nat) (nm : Str) (ps : List Str), Γ.fns[i]? = some (nm, ps) → ∃ (f : Addr) (fd : FuncData), X.mg nm = some (.ref f) ∧ PySem.W.keepIn X.K (.ref f) = true ∧ (∀ (s : Shared) (us : List Value), us.length = ps.length → BindsTo s fd ⟨us, []⟩ (ps.zip us)) ∧
    FnG X.prog X.w X.K X.mg X.base k f fd ps (spF G X.K i) ∧ ∀ (n : Nat) (ks : List Str) (pl : List Nat), (i, n, ks, pl) ∈ Γ.kws → KwB fd ps n ks pl
  const : ∀ (g : Nat) (nm : Str) (d : D), Γ.consts[g]? = some nm → G.consts[g]? = some d → ∃ (u : Value) (v : V), X.mg nm = some u ∧ RelV v u ∧ ∀ A C H, Rep X.K A C H d v
  blt : ∀ x ∈ ([("int" : Str), "abs", "divmod", "len", "max", "min", "tuple", "list", "all", "any", "sum", "repr", "isinstance", "range", "zip", "enumerate", "bool", "str"] : List Str), X.mg x = none
  gcd : (("gcd" : Str) ∈ Γ.mth) → X.mg "gcd" = some (.builtin "math.gcd")
  isq : (("isqrt" : Str) ∈ Γ.mth) → X.mg "isqrt" = some (.builtin "math.isqrt")
  room : Room k X.A
  gds : X.A.guards = some []
  mono : G.Mono
structure At (Γ : Info) (G : Env) (k : Nat) (X : Cx) (p : Pl) : Prop extends Facts Γ G k X where
  N : X.N = p.N
  sc : X.env.scope = p.sc
  fns : ∀ x, p.fn x = true → X.fn x = true
  nd : X.N.Nodup
  calm : X.calm = true
  xe : X.xe = fun _ _ => False

def SndE (G : Env) (X : Cx) (m : E) (ex : Expr) : Prop := ∀ {F : Frm} {τ : List (D × V)} {own : Own} {C : List Addr} {σd : Sl} {W : Ce} {σ : L2.St} {H : Hp} {R : VK}, F.K = X.K → Sim F τ own C σd W σ H →
  wpE G m σd W (fun d W' => ∀ v H' C', Sim F ((d, v) :: τ) own C' σd W' σ H' → R v H') → bE X ex σ H R
def SndT (G : Env) (X : Cx) (m : E) (ex : Expr) : Prop := ∀ {F : Frm} {τ : List (D × V)} {own : Own} {C : List Addr} {σd : Sl} {W : Ce} {σ : L2.St} {H : Hp} {R : Bool → Hp → Prop}, F.K = X.K → Sim F τ own C σd W σ H →
  wpT G m σd W (fun b W' => ∀ H' C', Sim F τ own C' σd W' σ H' → R b H') → bT X ex σ H R
def SndW (G : Env) (X : Cx) (m : E) (ex : Expr) : Prop := ∀ {F : Frm} {τ : List (D × V)} {own : Own} {C : List Addr} {σd : Sl} {W : Ce} {σ : L2.St} {H : Hp} {R : Bool → Hp → Prop}, F.K = X.K → Sim F τ own C σd W σ H →
  wpT G m σd W (fun b W' => ∀ H' C', Sim F τ own C' σd W' σ H' → R b H') → bW X ex σ H R
def tmps (ds : List D) (vs : List V) (τ : List (D × V)) : List (D × V) := ds.zip vs ++ τ
def SndA (G : Env) (X : Cx) (m : Es) (es : List Expr) : Prop := ∀ {F : Frm} {τ : List (D × V)} {own : Own} {C : List Addr} {σd : Sl} {W : Ce} {σ : L2.St} {H : Hp} {R : List V → Hp → Prop}, F.K = X.K → Sim F τ own C σd W σ H →
  wpEs G m σd W (fun ds W' => ∀ vs H' C', ds.length = vs.length → Sim F (tmps ds vs τ) own C' σd W' σ H' → R vs H') → bA X es σ H R

section
variable {F : Frm} {τ τ' : List (D × V)} {own : Own} {C : List Addr} {σd : Sl} {W : Ce} {σ : L2.St} {H : Hp}
theorem Sim.reps : ∀ {ds : List D} {vs : List V}, Sim F (tmps ds vs τ) own C σd W σ H → ds.length = vs.length → nbs ds = true → Reps F.K (Av F.P own) C H ds vs
  | [], [], _, _, _ => .nil
  | [], _ :: _, _, e, _ => by simp at e
  | _ :: _, [], _, e, _ => by simp at e
  | d :: ds, v :: vs, s, e, h => by
    simp only [nbs, List.all_cons, Bool.and_eq_true] at h
    have s' : Sim F ((d, v) :: tmps ds vs τ) own C σd W σ H := s
    refine .cons ?_ (Sim.reps s'.pop (by simpa using e) h.2)
    rcases s'.tmp (d, v) List.mem_cons_self with r | ⟨i, a, e1, _, _⟩ | ⟨i, a, vs, e1, _⟩
    · exact r
    · have e1 : d = .bor i := e1
      subst e1
      exact absurd h.1 (by simp [D.nb])
    · have e1 : d = .pin i vs := e1
      subst e1
      exact absurd h.1 (by simp [D.nb])
theorem Sim.repUs : ∀ {ds : List D} {vs : List V}, Sim F (tmps ds vs τ) own C σd W σ H → ds.length = vs.length → RepUs F.K (Av F.P own) C H (ds.map (Bn.view σd W)) vs
  | [], [], _, _ => .nil
  | [], _ :: _, _, e => by simp at e
  | _ :: _, [], _, e => by simp at e
  | d :: ds, v :: vs, s, e => by
    have s' : Sim F ((d, v) :: tmps ds vs τ) own C σd W σ H := s
    exact .cons (s'.view List.mem_cons_self) (Sim.repUs s'.pop (by simpa using e))
theorem Sim.rep1 {d : D} {v : V} (s : Sim F ((d, v) :: τ) own C σd W σ H) (h : d.nb = true) : Rep F.K (Av F.P own) C H d v := by
  rcases s.tmp (d, v) List.mem_cons_self with r | ⟨i, a, e1, _, _⟩ | ⟨i, a, vs, e1, _⟩
  · exact r
  · have e1 : d = .bor i := e1
    subst e1
    exact absurd h (by simp [D.nb])
  · have e1 : d = .pin i vs := e1
    subst e1
    exact absurd h (by simp [D.nb])
theorem Sim.drop {ds : List D} {vs : List V} (s : Sim F (tmps ds vs τ) own C σd W σ H) : Sim F τ own C σd W σ H := s.sub fun _ h => List.mem_append_right _ h
theorem Sim.drop1 {p : D × V} {ds : List D} {vs : List V} (s : Sim F (p :: tmps ds vs τ) own C σd W σ H) : Sim F (p :: τ) own C σd W σ H := s.sub fun x h => by
  rcases List.mem_cons.mp h with e | h
  · subst e; exact List.mem_cons_self
  · exact List.mem_cons_of_mem _ (List.mem_append_right _ h)
theorem Sim.pop3 {p q r : D × V} (s : Sim F (p :: q :: r :: τ) own C σd W σ H) : Sim F (p :: τ) own C σd W σ H := s.pop2.pop2
/-- the end of a call -/
theorem Sim.after (s : Sim F τ own C σd W σ H) {C' : List Addr} {W' : Ce} {H' : Hp} {d : D} {v : V} (h1 : ∀ (k : Nat) (a : Addr), C[k]? = some a → C'[k]? = some a) (h2 : ∀ a ∈ C', a ∈ C ∨ H a = none) (h3 : CellsOk F.K (Av F.P own) C' W' H')
    (h4 : Keep (· ∈ C) H H') (h5 : Rep F.K (Av F.P own) C' H' d v) : Sim F ((d, v) :: τ) own C' σd W' σ H' := by
  have g : Go F.K (Av F.P own) (Av F.P own) C C' H H' := ⟨h4.imp fun _ m => .inr m, fun _ z => .inl z, h1, h2⟩
  refine Sim.push ?_ (.inl h5)
  refine ⟨fun p hp => (s.tmp p hp).go g h4 fun i a e => (s.olt i a e).2.2.1, s.len, fun i d e => ?_, fun i ds e => ?_, s.oin, fun i a e => ?_, s.fin, h3.cl, h3.ce, h3.cn, fun a ha z => h3.cp a ha (.inl z), fun k a e => h1 k a (s.cx k a e), fun a ha => ?_, fun a o e n => ?_, s.pl⟩
  · obtain ⟨v, e1, r⟩ := s.sh i d e
    exact ⟨v, e1, r.go g⟩
  · obtain ⟨a, vs, e1, e2, e3, r⟩ := s.ow i ds e
    exact ⟨a, vs, e1, e2, h4.lst e3 (s.olt i a e1).2.2.1, r.go g⟩
  · obtain ⟨e1, ⟨vs, e2⟩, e3, e4⟩ := s.olt i a e
    exact ⟨e1, ⟨vs, h4.lst e2 e3⟩, fun z => h3.cp a z (.inr ⟨i, e⟩), e4⟩
  · rcases h2 a ha with z | z
    · exact s.cnew a z
    · exact .inr (s.free0 z)
  · refine h4 a o (s.kp a o e n) fun m => ?_
    rcases s.cnew a m with z | z
    · exact n z
    · rw [e] at z; cases z
end

section
variable {G : Env} {X : Cx} {pos : Pos} {a b c : E} {ea eb ec : Expr} {as : Es} {eas : List Expr}
theorem truth_ok {K : PySem.W.Frag} {A : Addr → Prop} {C : List Addr} {H : Hp} {d : D} {v : V} {k : Bool} (r : RepU K A C H d v) (e : truth d = some k) : TruV K v H k := by
  cases d with
  | non => cases r.non; cases e; exact rfl
  | bl b => cases r.bl; cases e; exact rfl
  | int i => cases r.int; cases e; exact rfl
  | tup xs =>
    obtain ⟨p, vs, rfl, h, rr⟩ := r.tup
    cases e
    refine .inr (.inl ⟨vs, h, ?_⟩)
    cases rr <;> rfl
  | lst xs =>
    obtain ⟨p, vs, rfl, h, rr⟩ := r.lst
    cases e
    refine .inl ⟨vs, SqL.of h, ?_⟩
    cases rr <;> rfl
  | _ => cases e
/-- a test of any other form -/
theorem snd_test (M : G.Mono) (h : SndE G X a ea) (he : ∀ whole, isTrue ea X.env whole = (do let v ← whole; standAt ea.pos; holding [v] (truthy v))) : SndT G X a ea := by
  intro F τ own C σd W σ H R hK s k
  refine bT_of (pt_truth bE_ok he) (h hK s (wpE_mono M a (fun d W1 k v H1 C1 s1 => ?_) k))
  split at k
  · rename_i z e
    have r := s1.view List.mem_cons_self
    rw [hK] at r
    exact ⟨z, truth_ok r e, k H1 C1 s1.pop⟩
  · exact k.elim
theorem snd_con_int {i : Int} {j : Nat} : SndE G X (.con (.int i)) (.Constant (.int i) j pos) := by
  intro F τ own C σd W σ H R hK s k
  exact bE_of pe_int (k _ H C (s.push (.inl (.int i))))
theorem snd_con_bl {i : Bool} {j : Nat} : SndE G X (.con (.bl i)) (.Constant (.bool i) j pos) := by
  intro F τ own C σd W σ H R hK s k
  exact bE_of pe_bl (k _ H C (s.push (.inl (.bl i))))
theorem snd_con_non {j : Nat} : SndE G X (.con .non) (.Constant .none j pos) := by
  intro F τ own C σd W σ H R hK s k
  exact bE_of pe_non (k _ H C (s.push (.inl .non)))
theorem snd_con_str {x : Str} {j : Nat} : SndE G X (.con (.str x)) (.Constant (.str x) j pos) := by
  intro F τ own C σd W σ H R hK s k
  exact bE_of pe_str (k _ H C (s.push (.inl (.str x))))
theorem snd_var {i : Nat} {x : Str} (hN : X.N[i]? = some x) (hv : Vis X.env.scope x) (hd : (x == ("__debug__" : Str)) = false) (hc : (x == ("__classdict__" : Str)) = false) : SndE G X (.var i) (.Name x pos) := by
  intro F τ own C σd W σ H R hK s k
  simp only [wpE] at k
  refine bE_of (pe_var hN hv hd hc) ?_
  split at k
  · rename_i d e
    obtain ⟨v, e1, r⟩ := s.sh i d e
    exact ⟨v, e1, k v H C (s.push (.inl r))⟩
  · rename_i ds e
    obtain ⟨a, vs, e1, e2, e3, r⟩ := s.ow i ds e
    exact ⟨.ref a, e2, k _ H C (s.push (.inr (.inl ⟨i, a, rfl, e1, rfl⟩)))⟩
  · exact k.elim
theorem snd_glob {g : Nat} {x : Str} {u : Value} {v : V} {d : D} (hg : Gl X x) (hm : X.mg x = some u) (r : RelV v u) (hd : (x == ("__debug__" : Str)) = false) (hr : ∀ A C H, Rep X.K A C H d v) (he : G.consts[g]? = some d) : SndE G X (.glob g) (.Name x pos) := by
  intro F τ own C σd W σ H R hK s k
  simp only [wpE, he] at k
  exact bE_of (pe_glob hg hm r hd) (k v H C (s.push (.inl (by rw [hK]; exact hr _ _ _))))
theorem snd_bin {o : Bop} (M : G.Mono) (ha : SndE G X a ea) (hb : SndE G X b eb) : SndE G X (.bin o a b) (.BinOp ea (opOf o) eb pos) := by
  intro F τ own C σd W σ H R hK s k
  simp only [wpE] at k
  refine bE_of (pe_op rB_ok bE_ok bE_ok) (ha hK s (wpE_mono M a (fun x W1 k v H1 C1 s1 => ?_) k))
  refine hb hK s1 (wpE_mono M b (fun y W2 k u H2 C2 s2 => ?_) k)
  exact bin_snd hK s2 (s2.view (List.mem_cons_of_mem _ List.mem_cons_self)) (s2.view List.mem_cons_self) k fun z v H' kz sz => kz v H' C2 sz.pop3
theorem snd_neg (M : G.Mono) (ha : SndE G X a ea) : SndE G X (.neg a) (.UnaryOp .USub ea pos) := by
  intro F τ own C σd W σ H R hK s k
  simp only [wpE] at k
  refine bE_of (pe_un un_neg bE_ok) (ha hK s (wpE_mono M a (fun x W1 k v H1 C1 s1 => ?_) k))
  split at k
  · cases s1.rep1 rfl
    exact ⟨_, rfl, k _ H1 C1 (s1.push (.inl (.int _))).pop2⟩
  · exact k.elim
theorem snd_cmp {o : Cop} {n : Nat} (hr : Room n X.A) (M : G.Mono) (ha : SndE G X a ea) (hb : SndE G X b eb) (hm : behindInMarks (copOf o) eb = false) : SndE G X (.cmp o a b) (.Compare ea [copOf o] [eb] pos) := by
  intro F τ own C σd W σ H R hK s k
  simp only [wpE] at k
  refine bE_of (pe_cmpR rB_ok bE_ok bE_ok hm) (ha hK s (wpE_mono M a (fun x W1 k v H1 C1 s1 => ?_) k))
  refine hb hK s1 (wpE_mono M b (fun y W2 k u H2 C2 s2 => ?_) k)
  exact cmp_snd hK hr s2 (s2.view (List.mem_cons_of_mem _ List.mem_cons_self)) (s2.view List.mem_cons_self) k fun z kz => kz _ H2 C2 (s2.push (.inl (.bl z))).pop3
theorem snd_cmpT {o : Cop} {n : Nat} (hr : Room n X.A) (M : G.Mono) (ha : SndE G X a ea) (hb : SndE G X b eb) (hm : behindInMarks (copOf o) eb = false) : SndT G X (.cmp o a b) (.Compare ea [copOf o] [eb] pos) := by
  intro F τ own C σd W σ H R hK s k
  simp only [wpT, wpE] at k
  refine bT_of (pt_cmpR rB_ok bE_ok bE_ok hm) (ha hK s (wpE_mono M a (fun x W1 k v H1 C1 s1 => ?_) k))
  refine hb hK s1 (wpE_mono M b (fun y W2 k u H2 C2 s2 => ?_) k)
  exact cmp_snd hK hr s2 (s2.view (List.mem_cons_of_mem _ List.mem_cons_self)) (s2.view List.mem_cons_self) k fun z kz => ⟨z, rfl, kz H2 C2 s2.pop.pop⟩
theorem snd_chain {o o2 : Cop} {n : Nat} (hr : Room n X.A) (M : G.Mono) (ha : SndE G X a ea) (hb : SndE G X b eb) (hc : SndE G X c ec) (hm : lastMarks [copOf o, copOf o2] [eb, ec] = false) : SndE G X (.chain o o2 a b c) (.Compare ea [copOf o, copOf o2] [eb, ec] pos) := by
  intro F τ own C σd W σ H R hK s k
  simp only [wpE] at k
  refine bE_of (pe_chain rB_ok rB_ok bE_ok bE_ok bE_ok hm) (ha hK s (wpE_mono M a (fun x W1 k v H1 C1 s1 => ?_) k))
  refine hb hK s1 (wpE_mono M b (fun y W2 k u H2 C2 s2 => ?_) k)
  refine cmp_snd hK hr s2 (s2.view (List.mem_cons_of_mem _ List.mem_cons_self)) (s2.view List.mem_cons_self) k fun z kz => ⟨z, rfl, ?_⟩
  split
  · rename_i e
    rw [if_pos e] at kz
    refine hc hK s2 (wpE_mono M c (fun u2 W3 k w H3 C3 s3 => ?_) kz)
    exact cmp_snd hK hr s3 (s3.view (List.mem_cons_of_mem _ List.mem_cons_self)) (s3.view List.mem_cons_self) k fun z kz => kz _ H3 C3 (s3.push (.inl (.bl z))).pop3.pop2
  · rename_i e
    rw [if_neg e] at kz
    exact kz _ H2 C2 (s2.push (.inl (.bl false))).pop3
theorem snd_chainT {o o2 : Cop} {n : Nat} (hr : Room n X.A) (M : G.Mono) (ha : SndE G X a ea) (hb : SndE G X b eb) (hc : SndE G X c ec) (hm : lastMarks [copOf o, copOf o2] [eb, ec] = false) : SndT G X (.chain o o2 a b c) (.Compare ea [copOf o, copOf o2] [eb, ec] pos) := by
  intro F τ own C σd W σ H R hK s k
  simp only [wpT, wpE] at k
  refine bT_of (pt_chain rB_ok rB_ok bE_ok bE_ok bE_ok hm) (ha hK s (wpE_mono M a (fun x W1 k v H1 C1 s1 => ?_) k))
  refine hb hK s1 (wpE_mono M b (fun y W2 k u H2 C2 s2 => ?_) k)
  refine cmp_snd hK hr s2 (s2.view (List.mem_cons_of_mem _ List.mem_cons_self)) (s2.view List.mem_cons_self) k fun z kz => ⟨z, rfl, ?_⟩
  split
  · rename_i e
    rw [if_pos e] at kz
    refine hc hK s2 (wpE_mono M c (fun u2 W3 k w H3 C3 s3 => ?_) kz)
    exact cmp_snd hK hr s3 (s3.view (List.mem_cons_of_mem _ List.mem_cons_self)) (s3.view List.mem_cons_self) k fun z kz => ⟨z, rfl, kz H3 C3 s3.pop.pop.pop⟩
  · rename_i e
    rw [if_neg e] at kz
    exact ⟨false, rfl, kz H2 C2 s2.pop.pop⟩
theorem snd_isN {j : Nat} {pos' : Pos} (M : G.Mono) (ha : SndE G X a ea) : SndE G X (.isN a) (.Compare ea [.Is] [.Constant .none j pos'] pos) := by
  intro F τ own C σd W σ H R hK s k
  simp only [wpE] at k
  refine bE_of (pe_cmp (pc_isN bE_ok)) (ha hK s (wpE_mono M a (fun x W1 k v H1 C1 s1 => ?_) k))
  split at k
  · cases s1.rep1 rfl
    exact k _ H1 C1 (s1.push (.inl (.bl true))).pop2
  · rename_i hne
    have e : decide (v = V.non) = false := by
      refine decide_eq_false fun z => ?_
      subst z
      rcases s1.tmp _ List.mem_cons_self with r | ⟨_, _, _, _, e⟩ | ⟨_, _, _, _, _, e, _⟩
      · have r : Rep F.K (Av F.P own) C1 H1 x .non := r
        cases r
        exact hne rfl
      · cases e
      · cases e
    rw [e]
    exact k _ H1 C1 (s1.push (.inl (.bl false))).pop2
theorem snd_isnN {j : Nat} {pos' : Pos} (M : G.Mono) (ha : SndE G X a ea) : SndE G X (.isnN a) (.Compare ea [.IsNot] [.Constant .none j pos'] pos) := by
  intro F τ own C σd W σ H R hK s k
  simp only [wpE] at k
  refine bE_of (pe_cmp (pc_notN bE_ok)) (ha hK s (wpE_mono M a (fun x W1 k v H1 C1 s1 => ?_) k))
  split at k
  · cases s1.rep1 rfl
    exact k _ H1 C1 (s1.push (.inl (.bl false))).pop2
  · rename_i hne
    have e : decide (v = V.non) = false := by
      refine decide_eq_false fun z => ?_
      subst z
      rcases s1.tmp _ List.mem_cons_self with r | ⟨_, _, _, _, e⟩ | ⟨_, _, _, _, _, e, _⟩
      · have r : Rep F.K (Av F.P own) C1 H1 x .non := r
        cases r
        exact hne rfl
      · cases e
      · cases e
    rw [e]
    exact k _ H1 C1 (s1.push (.inl (.bl true))).pop2
/-- a comparison with None as a test -/
theorem snd_isNT {j : Nat} {pos' : Pos} (M : G.Mono) (ha : SndE G X a ea) : SndT G X (.isN a) (.Compare ea [.Is] [.Constant .none j pos'] pos) := by
  intro F τ own C σd W σ H R hK s k
  simp only [wpT, wpE] at k
  refine bT_of (pt_cmp (pc_isN bE_ok)) (ha hK s (wpE_mono M a (fun x W1 k v H1 C1 s1 => ?_) k))
  split at k
  · cases s1.rep1 rfl
    exact ⟨_, rfl, k H1 C1 s1.pop⟩
  · rename_i hne
    have e : decide (v = V.non) = false := by
      refine decide_eq_false fun z => ?_
      subst z
      rcases s1.tmp _ List.mem_cons_self with r | ⟨_, _, _, _, e⟩ | ⟨_, _, _, _, _, e, _⟩
      · have r : Rep F.K (Av F.P own) C1 H1 x .non := r
        cases r
        exact hne rfl
      · cases e
      · cases e
    rw [e]
    exact ⟨_, rfl, k H1 C1 s1.pop⟩
theorem snd_isnNT {j : Nat} {pos' : Pos} (M : G.Mono) (ha : SndE G X a ea) : SndT G X (.isnN a) (.Compare ea [.IsNot] [.Constant .none j pos'] pos) := by
  intro F τ own C σd W σ H R hK s k
  simp only [wpT, wpE] at k
  refine bT_of (pt_cmp (pc_notN bE_ok)) (ha hK s (wpE_mono M a (fun x W1 k v H1 C1 s1 => ?_) k))
  split at k
  · cases s1.rep1 rfl
    exact ⟨_, rfl, k H1 C1 s1.pop⟩
  · rename_i hne
    have e : decide (v = V.non) = false := by
      refine decide_eq_false fun z => ?_
      subst z
      rcases s1.tmp _ List.mem_cons_self with r | ⟨_, _, _, _, e⟩ | ⟨_, _, _, _, _, e, _⟩
      · have r : Rep F.K (Av F.P own) C1 H1 x .non := r
        cases r
        exact hne rfl
      · cases e
      · cases e
    rw [e]
    exact ⟨_, rfl, k H1 C1 s1.pop⟩
end
end Bn

set_option Elab.async false
set_option linter.all false
set_option maxRecDepth 100000
/-! Bn, part 8: expressions, further. -/
namespace Bn
open PySem PySem.Spec PyProof.Rows L2
section
variable {G : Env} {X : Cx} {pos : Pos} {a b c : E} {ea eb ec : Expr} {as : Es} {eas : List Expr}

/-! ### and, or, not, if -/
theorem wpT_of (M : G.Mono) {m : E} {σ : Sl} {W : Ce} {Q : D → Ce → Prop} {Q' : Bool → Ce → Prop} (k : wpE G m σ W Q) (h : ∀ d W1, Q d W1 → ∃ b, truth (view σ W1 d) = some b ∧ Q' b W1) : wpT G m σ W Q' :=
  wpE_mono M m (fun d W1 k => by
    obtain ⟨b, e, k⟩ := h d W1 k
    rw [e]
    exact k) k
theorem snd_and1 (M : G.Mono) (ha : SndE G X a ea) (hb : SndE G X b eb) : SndE G X (.and a b) (.BoolOp .And [ea, eb] pos) := by
  intro F τ own C σd W σ H R hK s k
  simp only [wpE] at k
  refine bE_of (pe_and bE_ok (pe_one bE_ok)) (ha hK s (wpE_mono M a (fun x W1 k v H1 C1 s1 => ?_) k))
  split at k
  · cases s1.rep1 rfl
    exact ⟨_, rfl, hb hK s1 (wpE_mono M b (fun y W2 k u H2 C2 s2 => k u H2 C2 s2.pop2) k)⟩
  · cases s1.rep1 rfl
    exact ⟨_, rfl, k _ H1 C1 s1⟩
  · exact k.elim
theorem snd_and {y : Expr} {rest : List Expr} {pos' : Pos} (M : G.Mono) (ha : SndE G X a ea) (hb : SndE G X b (.BoolOp .And (y :: rest) pos)) : SndE G X (.and a b) (.BoolOp .And (ea :: y :: rest) pos) := by
  intro F τ own C σd W σ H R hK s k
  simp only [wpE] at k
  refine bE_of (pe_and bE_ok bE_ok) (ha hK s (wpE_mono M a (fun x W1 k v H1 C1 s1 => ?_) k))
  split at k
  · cases s1.rep1 rfl
    exact ⟨_, rfl, hb hK s1 (wpE_mono M b (fun y W2 k u H2 C2 s2 => k u H2 C2 s2.pop2) k)⟩
  · cases s1.rep1 rfl
    exact ⟨_, rfl, k _ H1 C1 s1⟩
  · exact k.elim
theorem snd_or1 (M : G.Mono) (ha : SndE G X a ea) (hb : SndE G X b eb) : SndE G X (.or a b) (.BoolOp .Or [ea, eb] pos) := by
  intro F τ own C σd W σ H R hK s k
  simp only [wpE] at k
  refine bE_of (pe_or bE_ok (pe_one bE_ok)) (ha hK s (wpE_mono M a (fun x W1 k v H1 C1 s1 => ?_) k))
  split at k
  · cases s1.rep1 rfl
    exact ⟨_, rfl, k _ H1 C1 s1⟩
  · cases s1.rep1 rfl
    exact ⟨_, rfl, hb hK s1 (wpE_mono M b (fun y W2 k u H2 C2 s2 => k u H2 C2 s2.pop2) k)⟩
  · exact k.elim
theorem snd_or {y : Expr} {rest : List Expr} {pos' : Pos} (M : G.Mono) (ha : SndE G X a ea) (hb : SndE G X b (.BoolOp .Or (y :: rest) pos)) : SndE G X (.or a b) (.BoolOp .Or (ea :: y :: rest) pos) := by
  intro F τ own C σd W σ H R hK s k
  simp only [wpE] at k
  refine bE_of (pe_or bE_ok bE_ok) (ha hK s (wpE_mono M a (fun x W1 k v H1 C1 s1 => ?_) k))
  split at k
  · cases s1.rep1 rfl
    exact ⟨_, rfl, k _ H1 C1 s1⟩
  · cases s1.rep1 rfl
    exact ⟨_, rfl, hb hK s1 (wpE_mono M b (fun y W2 k u H2 C2 s2 => k u H2 C2 s2.pop2) k)⟩
  · exact k.elim
/-- the first part's answer, as a test -/
theorem and_test (M : G.Mono) {σ : Sl} {W : Ce} {Q : Bool → Ce → Prop} (k : wpT G (.and a b) σ W Q) : wpT G a σ W fun c W1 => if c = true then wpT G b σ W1 Q else Q false W1 := by
  simp only [wpT, wpE] at k
  refine wpT_of M k fun d W1 k => ?_
  split at k
  · exact ⟨true, rfl, k⟩
  · exact ⟨false, rfl, k⟩
  · exact k.elim
theorem or_test (M : G.Mono) {σ : Sl} {W : Ce} {Q : Bool → Ce → Prop} (k : wpT G (.or a b) σ W Q) : wpT G a σ W fun c W1 => if c = true then Q true W1 else wpT G b σ W1 Q := by
  simp only [wpT, wpE] at k
  refine wpT_of M k fun d W1 k => ?_
  split at k
  · exact ⟨true, rfl, k⟩
  · exact ⟨false, rfl, k⟩
  · exact k.elim
theorem snd_and1W (M : G.Mono) (ha : SndT G X a ea) (hb : SndT G X b eb) : SndW G X (.and a b) (.BoolOp .And [ea, eb] pos) := by
  intro F τ own C σd W σ H R hK s k
  refine bW_of (pw_and bT_ok (pw_and1 bT_ok)) (ha hK s (wpT_mono M a (fun x W1 k H1 C1 s1 => ?_) (and_test M k)))
  split
  · rename_i e
    rw [if_pos e] at k
    exact hb hK s1 k
  · rename_i e
    rw [if_neg e] at k
    exact k H1 C1 s1
theorem snd_andW {y : Expr} {rest : List Expr} (M : G.Mono) (ha : SndT G X a ea) (hb : SndW G X b (.BoolOp .And (y :: rest) pos)) : SndW G X (.and a b) (.BoolOp .And (ea :: y :: rest) pos) := by
  intro F τ own C σd W σ H R hK s k
  refine bW_of (pw_and bT_ok bW_ok) (ha hK s (wpT_mono M a (fun x W1 k H1 C1 s1 => ?_) (and_test M k)))
  split
  · rename_i e
    rw [if_pos e] at k
    exact hb hK s1 k
  · rename_i e
    rw [if_neg e] at k
    exact k H1 C1 s1
theorem snd_or1W (M : G.Mono) (ha : SndT G X a ea) (hb : SndT G X b eb) : SndW G X (.or a b) (.BoolOp .Or [ea, eb] pos) := by
  intro F τ own C σd W σ H R hK s k
  refine bW_of (pw_or bT_ok (pw_or1 bT_ok)) (ha hK s (wpT_mono M a (fun x W1 k H1 C1 s1 => ?_) (or_test M k)))
  split
  · rename_i e
    rw [if_pos e] at k
    exact k H1 C1 s1
  · rename_i e
    rw [if_neg e] at k
    exact hb hK s1 k
theorem snd_orW {y : Expr} {rest : List Expr} (M : G.Mono) (ha : SndT G X a ea) (hb : SndW G X b (.BoolOp .Or (y :: rest) pos)) : SndW G X (.or a b) (.BoolOp .Or (ea :: y :: rest) pos) := by
  intro F τ own C σd W σ H R hK s k
  refine bW_of (pw_or bT_ok bW_ok) (ha hK s (wpT_mono M a (fun x W1 k H1 C1 s1 => ?_) (or_test M k)))
  split
  · rename_i e
    rw [if_pos e] at k
    exact k H1 C1 s1
  · rename_i e
    rw [if_neg e] at k
    exact hb hK s1 k
theorem SndW.t {m : E} {ex : Expr} (h : SndW G X m ex) : SndT G X m ex := by
  intro F τ own C σd W σ H R hK s k
  exact bT_of bW_ok.pt (h hK s k)
theorem snd_not (M : G.Mono) (ha : SndE G X a ea) : SndE G X (.not a) (.UnaryOp .Not ea pos) := by
  intro F τ own C σd W σ H R hK s k
  simp only [wpE] at k
  refine bE_of (pe_not bE_ok) (ha hK s (wpE_mono M a (fun x W1 k v H1 C1 s1 => ?_) k))
  split at k
  · cases s1.rep1 rfl
    exact ⟨_, rfl, k _ H1 C1 (s1.push (.inl (.bl _))).pop2⟩
  · exact k.elim
theorem snd_notT (M : G.Mono) (ha : SndT G X a ea) : SndT G X (.not a) (.UnaryOp .Not ea pos) := by
  intro F τ own C σd W σ H R hK s k
  simp only [wpT, wpE] at k
  refine bT_of (pt_not bT_ok) (ha hK s (wpT_of M k fun d W1 k => ?_))
  split at k
  · exact ⟨_, rfl, k⟩
  · exact k.elim
theorem snd_ite (M : G.Mono) (hc : SndT G X c ec) (ha : SndE G X a ea) (hb : SndE G X b eb) : SndE G X (.ite c a b) (.IfExp ec ea eb pos) := by
  intro F τ own C σd W σ H R hK s k
  simp only [wpE] at k
  refine bE_of (pe_ifExp bT_ok bE_ok bE_ok) (hc hK s (wpT_of M k fun d W1 k => ?_))
  cases e : truth (view σd W1 d) with
  | none =>
    rw [e] at k
    exact k.elim
  | some z =>
    rw [e] at k
    refine ⟨z, rfl, fun H1 C1 s1 => ?_⟩
    cases z with
    | true =>
      rw [if_pos rfl]
      exact ha hK s1 k
    | false =>
      rw [if_neg Bool.false_ne_true]
      exact hb hK s1 k

/-! ### arguments, tuples, lists, subscripts -/
def noStar : Expr → Bool
  | .Starred _ _ => false
  | _ => true
theorem star_cons {e : Expr} {es : List Expr} {env : PySem.Env} (h : noStar e = true) : starEach (e :: es) env = (false, eval e env) :: starEach es env := by
  cases e <;> first | rfl | cases h
theorem star_none {env : PySem.Env} {pos : Pos} : ∀ {es : List Expr}, es.all noStar = true → (backTo pos (starEach es env)).any (·.1) = false
  | [], _ => rfl
  | e :: es, h => by
    simp only [List.all_cons, Bool.and_eq_true] at h
    rw [star_cons h.1]
    show (false || (backTo pos (starEach es env)).any (·.1)) = false
    rw [star_none h.2]
    rfl
theorem snd_nil : SndA G X .nil [] := by
  intro F τ own C σd W σ H R hK s k
  simp only [wpEs] at k
  exact bA_of pa_nil (k [] H C rfl s)
theorem snd_cons {e : E} {ex : Expr} (M : G.Mono) (he : SndE G X e ex) (hs : SndA G X as eas) (hn : noStar ex = true) : SndA G X (.cons e as) (ex :: eas) := by
  intro F τ own C σd W σ H R hK s k
  simp only [wpEs] at k
  refine bA_of (pa_cons bE_ok bA_ok (star_cons hn)) (he hK s (wpE_mono M e (fun x W1 k v H1 C1 s1 => ?_) k))
  refine hs hK s1 (wpEs_mono M as (fun ds W2 k vs H2 C2 hl s2 => ?_) k)
  refine k (v :: vs) H2 C2 (by simp [hl]) (s2.sub fun p hp => ?_)
  rcases List.mem_cons.mp (show p ∈ (x, v) :: (ds.zip vs ++ τ) from hp) with z | z
  · subst z
    exact List.mem_append_right _ List.mem_cons_self
  · rcases List.mem_append.mp z with z | z
    · exact List.mem_append_left _ z
    · exact List.mem_append_right _ (List.mem_cons_of_mem _ z)
theorem snd_tup {j : Nat} (M : G.Mono) (hs : SndA G X as eas) : SndE G X (.tup as) (.Tuple eas j pos) := by
  intro F τ own C σd W σ H R hK s k
  simp only [wpE] at k
  refine bE_of (pe_tup bA_ok) (hs hK s (wpEs_mono M as (fun ds W1 k vs H1 C1 hl s1 => ?_) k))
  exact ⟨by rw [← hl]; exact k.1.2, fun p hp => k.2 _ _ C1 (s1.newTup hp (s1.reps hl k.1.1)).drop1⟩
theorem snd_lst (M : G.Mono) (hs : SndA G X as eas) : SndE G X (.lst as) (.List eas pos) := by
  intro F τ own C σd W σ H R hK s k
  simp only [wpE] at k
  refine bE_of (pe_lst bA_ok) (hs hK s (wpEs_mono M as (fun ds W1 k vs H1 C1 hl s1 => ?_) k))
  exact ⟨by rw [← hl]; exact k.1.2, fun p hp => k.2 _ _ C1 (s1.newLst hp (s1.reps hl k.1.1)).drop1⟩
def notSl : Expr → Bool
  | .Slice _ _ _ _ => false
  | _ => true
theorem plain_ix {e : Expr} (h : notSl e = true) : PlainIx e := by
  intro o i
  cases e <;> first | rfl | cases h
theorem atI_map {α β : Type} {f : α → β} {xs : List α} {i : Int} : atI (xs.map f) i = (atI xs i).map f := by
  unfold atI
  rw [List.length_map]
  cases ixN xs.length i with
  | none => rfl
  | some j => simp
theorem reps_at {K : PySem.W.Frag} {A : Addr → Prop} {C : List Addr} {H : Hp} {ds : List D} {vs : List V} {i : Int} {d : D} (r : Reps K A C H ds vs) (h : atI ds i = some d) : ∃ v, atI vs i = some v ∧ Rep K A C H d v := by
  unfold atI at *
  rw [← r.length]
  cases e : ixN ds.length i with
  | none => rw [e] at h; cases h
  | some j =>
    rw [e] at h
    obtain ⟨v, h1, h2⟩ := r.get (i := j) (d := d) h
    exact ⟨v, h1, h2⟩
theorem snd_ix (M : G.Mono) (ha : SndE G X a ea) (hb : SndE G X b eb) (hs : notSl eb = true) : SndE G X (.ix a b) (.Subscript ea eb pos) := by
  intro F τ own C σd W σ H R hK s k
  simp only [wpE] at k
  refine bE_of (pe_ix ix_seq bE_ok bE_ok (plain_ix hs)) (ha hK s (wpE_mono M a (fun x W1 k v H1 C1 s1 => ?_) k))
  refine hb hK s1 (wpE_mono M b (fun y W2 k u H2 C2 s2 => ?_) k)
  have rx := s2.view (List.mem_cons_of_mem _ List.mem_cons_self)
  split at k
  · rename_i xs i e
    cases s2.rep1 rfl
    split at k
    · rename_i d e2
      generalize Bn.view σd W2 x = z at rx e
      cases z with
      | tup ys =>
        cases e
        obtain ⟨p, vs, rfl, h1, r1⟩ := rx.tup
        obtain ⟨w', h2, r2⟩ := reps_at r1 e2
        rw [hK] at h1
        exact .inr (.inl ⟨p, vs, i, w', rfl, rfl, h1, h2, k _ H2 C2 (s2.push (.inl r2)).pop3⟩)
      | lst ys =>
        cases e
        obtain ⟨p, vs, rfl, h1, r1⟩ := rx.lst
        obtain ⟨w', h2, r2⟩ := reps_at r1 e2
        exact .inl ⟨p, vs, i, w', rfl, rfl, SqL.of h1, h2, k _ H2 C2 (s2.push (.inl r2)).pop3⟩
      | scr ns =>
        cases e
        obtain ⟨p, rfl, h1⟩ := rx.scr
        rw [atI_map, Option.map_eq_some_iff] at e2
        obtain ⟨n, e2, rfl⟩ := e2
        rw [hK] at h1
        exact .inl ⟨p, _, i, .int n, rfl, rfl, h1.sq, by rw [atI_map, e2]; rfl, k _ H2 C2 (s2.push (.inl (.int n))).pop3⟩
      | _ => cases e
    · exact k.elim
  · exact k.elim
theorem snd_slFrom {p2 : Pos} (M : G.Mono) (ha : SndE G X a ea) (hb : SndE G X b eb) : SndE G X (.slFrom a b) (.Subscript ea (.Slice (some eb) none none p2) pos) := by
  intro F τ own C σd W σ H R hK s k
  simp only [wpE] at k
  refine bE_of (pe_slice (SlR.or sl_list sl_tupA) bE_ok (po_some bE_ok) po_none) (ha hK s (wpE_mono M a (fun x W1 k v H1 C1 s1 => ?_) k))
  refine hb hK s1 (wpE_mono M b (fun y W2 k u H2 C2 s2 => ?_) k)
  have rx := s2.view (List.mem_cons_of_mem _ List.mem_cons_self)
  split at k
  · rename_i xs i e
    cases s2.rep1 rfl
    rw [e] at rx
    obtain ⟨p, vs, rfl, h1, r1⟩ := rx.tup
    have hl := r1.length
    rw [hl] at k
    refine ⟨i, rfl, .inr ⟨p, vs, rfl, by rw [← hK]; exact h1, fun hw => ?_, fun hw q hq => ?_⟩⟩
    · rw [hw.1] at k
      rw [List.drop_zero, Nat.sub_zero, ← hl, List.take_length] at k
      exact k _ H2 C2 (s2.push (.inl (.tup h1 r1))).pop3
    · exact k _ _ C2 (s2.newTup hq ((r1.drop _).take _)).pop3
  · rename_i xs i e
    cases s2.rep1 rfl
    rw [e] at rx
    obtain ⟨p, vs, rfl, h1, r1⟩ := rx.lst
    have hl := r1.length
    rw [hl] at k
    exact ⟨i, rfl, .inl ⟨p, vs, rfl, SqL.of h1, fun q hq => k _ _ C2 (s2.newLst hq ((r1.drop _).take _)).pop3⟩⟩
  · exact k.elim
theorem snd_slTo {p2 : Pos} (M : G.Mono) (ha : SndE G X a ea) (hb : SndE G X b eb) : SndE G X (.slTo a b) (.Subscript ea (.Slice none (some eb) none p2) pos) := by
  intro F τ own C σd W σ H R hK s k
  simp only [wpE] at k
  refine bE_of (pe_slice (SlR.or sl_list sl_tupA) bE_ok po_none (po_some bE_ok)) (ha hK s (wpE_mono M a (fun x W1 k v H1 C1 s1 => ?_) k))
  refine hb hK s1 (wpE_mono M b (fun y W2 k u H2 C2 s2 => ?_) k)
  have rx := s2.view (List.mem_cons_of_mem _ List.mem_cons_self)
  have cv : ∀ (vs : List V) (i : Int), cutV vs none (some i) = vs.take (HT.sIx vs.length vs.length (some i)) := fun vs i => by
    unfold cutV
    rw [HT.sIx_none, List.drop_zero, Nat.sub_zero]
  split at k
  · rename_i xs i e
    cases s2.rep1 rfl
    rw [e] at rx
    obtain ⟨p, vs, rfl, h1, r1⟩ := rx.tup
    have hl := r1.length
    rw [hl] at k
    refine ⟨i, rfl, .inr ⟨p, vs, rfl, by rw [← hK]; exact h1, fun hw => ?_, fun hw q hq => ?_⟩⟩
    · rw [hw.2, ← hl, List.take_length] at k
      exact k _ H2 C2 (s2.push (.inl (.tup h1 r1))).pop3
    · rw [cv]
      exact k _ _ C2 (s2.newTup hq (r1.take _)).pop3
  · rename_i xs i e
    cases s2.rep1 rfl
    rw [e] at rx
    obtain ⟨p, vs, rfl, h1, r1⟩ := rx.lst
    have hl := r1.length
    rw [hl] at k
    refine ⟨i, rfl, .inl ⟨p, vs, rfl, SqL.of h1, fun q hq => ?_⟩⟩
    rw [cv]
    exact k _ _ C2 (s2.newLst hq (r1.take _)).pop3
  · rename_i ns i e
    cases s2.rep1 rfl
    rw [e] at rx
    obtain ⟨p, rfl, h1⟩ := rx.scr
    rw [hK] at h1
    refine ⟨i, rfl, .inl ⟨p, _, rfl, h1.sq, fun q hq => ?_⟩⟩
    rw [cv, List.length_map]
    exact k _ _ C2 (s2.newLst hq ((Reps.ints ns).take _)).pop3
  · exact k.elim

/-! ### calls -/
theorem snd_call {i kk : Nat} {x : Str} {p : Pos} {f : Addr} {fd : FuncData} {ps : List Str} (M : G.Mono) (Fk : FnG X.prog X.w X.K X.mg X.base kk f fd ps (spF G X.K i)) (hr : Room kk X.A) (hg : X.A.guards = some []) (hx : Gl X x) (hm : X.mg x = some (.ref f))
    (hk : PySem.W.keepIn X.K (.ref f) = true) (hb : ∀ (s : Shared) (us : List Value), us.length = ps.length → BindsTo s fd ⟨us, []⟩ (ps.zip us)) (hd : (x == ("__debug__" : Str)) = false) {e : Expr} (hs : SndA G X as (e :: eas)) (hn : (e :: eas).all noStar = true) :
    SndE G X (.call i as) (.Call (.Name x p) (e :: eas) [] pos) := by
  intro F τ own C σd W σ H R hK s k
  simp only [wpE] at k
  simp only [List.all_cons, Bool.and_eq_true] at hn
  refine bE_of (pe_G Fk hr hg hx hm hk hb bA_ok hd (star_cons hn.1) (star_none hn.2)) (hs hK s (wpEs_mono M as (fun ds W1 k vs H1 C1 hl s1 => ?_) k))
  refine ⟨ds, Av F.P own, C1, W1, by rw [← hK]; exact s1.reps hl k.1, fun a ha => s1.avAt ha, ⟨s1.cl, by rw [← hK]; exact s1.ce, s1.cn, fun a ha z => z.elim (s1.cp a ha) fun ⟨j, e⟩ => (s1.olt j a e).2.2.1 ha⟩, M.call _ _ _ _ _ (fun d W2 k v H2 C2 h1 h2 h3 h4 h5 => ?_) k.2⟩
  rw [← hK] at h3 h5
  exact k v H2 C2 (s1.after h1 h2 h3 h4 h5).drop1
theorem permD_reps {K : PySem.W.Frag} {A : Addr → Prop} {C : List Addr} {H : Hp} {ds : List D} {vs : List V} (r : Reps K A C H ds vs) : ∀ pl : List Nat, Reps K A C H (permD pl ds) (permW pl vs)
  | [] => .nil
  | i :: pl => by
    refine .cons ?_ (permD_reps r pl)
    show Rep K A C H (ds.getD i .non) (vs.getD i .non)
    cases e : ds[i]? with
    | none =>
      have e2 : vs[i]? = none := List.getElem?_eq_none (by rw [← r.length]; exact List.getElem?_eq_none_iff.mp e)
      rw [List.getD_eq_getElem?_getD, List.getD_eq_getElem?_getD, e, e2]
      exact .non
    | some d =>
      obtain ⟨v, e2, rr⟩ := r.get e
      rw [List.getD_eq_getElem?_getD, List.getD_eq_getElem?_getD, e, e2]
      exact rr
/-- the keywords' values -/
def bK (X : Cx) (kws : List Keyword) : TA := fun σ H Q => ∀ (pos : Pos) (pins : List (Addr × Obj)) (s : Shared), Inv X pins σ H s → wpAny (model X.prog X.w) X.A (evalAll ((backToKw pos (keywordEach kws X.env)).map (·.2))) (AP X pins σ Q) X.xe s
theorem bK_ok {X : Cx} {kws : List Keyword} : PK X kws (bK X kws) := ⟨fun pos pins s σ H Q I h => h pos pins s I⟩
theorem bK_of {X : Cx} {kws : List Keyword} {t : TA} (h : PK X kws t) {σ : L2.St} {H : Hp} {Q : List V → Hp → Prop} (k : t σ H Q) : bK X kws σ H Q := fun pos pins s I => h.run pos pins s σ H Q I k
def SndK (G : Env) (X : Cx) (m : Es) (kws : List Keyword) : Prop := ∀ {F : Frm} {τ : List (D × V)} {own : Own} {C : List Addr} {σd : Sl} {W : Ce} {σ : L2.St} {H : Hp} {R : List V → Hp → Prop}, F.K = X.K → Sim F τ own C σd W σ H →
  wpEs G m σd W (fun ds W' => ∀ vs H' C', ds.length = vs.length → Sim F (tmps ds vs τ) own C' σd W' σ H' → R vs H') → bK X kws σ H R
theorem snd_knil : SndK G X .nil [] := by
  intro F τ own C σd W σ H R hK s k
  simp only [wpEs] at k
  exact bK_of pk_nil (k [] H C rfl s)
theorem snd_kcons {e : E} {ex : Expr} {nm : Option Str} {kpos : Pos} {kws : List Keyword} (M : G.Mono) (he : SndE G X e ex) (hs : SndK G X as kws) : SndK G X (.cons e as) (⟨nm, ex, kpos⟩ :: kws) := by
  intro F τ own C σd W σ H R hK s k
  simp only [wpEs] at k
  refine bK_of (pk_cons bE_ok bK_ok) (he hK s (wpE_mono M e (fun x W1 k v H1 C1 s1 => ?_) k))
  refine hs hK s1 (wpEs_mono M as (fun ds W2 k vs H2 C2 hl s2 => ?_) k)
  refine k (v :: vs) H2 C2 (by simp [hl]) (s2.sub fun p hp => ?_)
  rcases List.mem_cons.mp (show p ∈ (x, v) :: (ds.zip vs ++ τ) from hp) with z | z
  · subst z
    exact List.mem_append_right _ List.mem_cons_self
  · rcases List.mem_append.mp z with z | z
    · exact List.mem_append_left _ z
    · exact List.mem_append_right _ (List.mem_cons_of_mem _ z)
/-- all arguments of a call with keywords, the positional ones first -/
def esApp : Es → Es → Es
  | .nil, ks => ks
  | .cons e es, ks => .cons e (esApp es ks)
def esLen : Es → Nat
  | .nil => 0
  | .cons _ es => esLen es + 1
theorem wpEs_app : ∀ {as ks : Es} {σ : Sl} {W : Ce} {Q : List D → Ce → Prop}, wpEs G (esApp as ks) σ W Q = wpEs G as σ W fun ds W1 => wpEs G ks σ W1 fun es W2 => Q (ds ++ es) W2
  | .nil, ks, σ, W, Q => by
    simp only [esApp, wpEs, List.nil_append]
  | .cons e es, ks, σ, W, Q => by
    simp only [esApp, wpEs, wpEs_app (as := es), List.cons_append]
theorem wpEs_len (M : G.Mono) : ∀ {as : Es} {σ : Sl} {W : Ce} {Q : List D → Ce → Prop}, wpEs G as σ W Q → wpEs G as σ W fun ds W1 => ds.length = esLen as ∧ Q ds W1
  | .nil, _, _, _, k => by
    simp only [wpEs] at *
    exact ⟨rfl, k⟩
  | .cons e es, _, _, _, k => by
    simp only [wpEs] at *
    refine wpE_mono M e (fun d W1 k => ?_) k
    exact wpEs_mono M es (fun ds W2 k => ⟨by rw [List.length_cons, k.1]; rfl, k.2⟩) (wpEs_len M k)
theorem call_pre {F : Frm} {τ : List (D × V)} {own : Own} {C : List Addr} {σd : Sl} {W : Ce} {σ : L2.St} {H : Hp} {R : VK} {i : Nat} {ds : List D} {vs : List V} (hK : F.K = X.K) (M : G.Mono) (s : Sim F τ own C σd W σ H) (r : Reps F.K (Av F.P own) C H ds vs)
    (k : G.call i ds W fun d W' => ∀ v H' C', Sim F ((d, v) :: τ) own C' σd W' σ H' → R v H') : spF G X.K i vs H R := by
  refine ⟨ds, Av F.P own, C, W, by rw [← hK]; exact r, fun a ha => s.avAt ha, ⟨s.cl, by rw [← hK]; exact s.ce, s.cn, fun a ha z => z.elim (s.cp a ha) fun ⟨j, e⟩ => (s.olt j a e).2.2.1 ha⟩, M.call _ _ _ _ _ (fun d W2 k v H2 C2 h1 h2 h3 h4 h5 => ?_) k⟩
  rw [← hK] at h3 h5
  exact k v H2 C2 (s.after h1 h2 h3 h4 h5)
theorem kw_some {env : PySem.Env} {pos : Pos} : ∀ {kws : List Keyword}, kws.all (·.arg.isSome) = true → (backToKw pos (keywordEach kws env)).all (·.1.isSome) = true ∧ (backToKw pos (keywordEach kws env)).any (·.1.isNone) = false ∧ (backToKw pos (keywordEach kws env)).filterMap (·.1) = kws.filterMap (·.arg)
  | [], _ => ⟨rfl, rfl, rfl⟩
  | ⟨nm, v, q⟩ :: kws, h => by
    simp only [List.all_cons, Bool.and_eq_true] at h
    obtain ⟨h1, h2, h3⟩ := kw_some (env := env) (pos := pos) h.2
    cases nm with
    | none => cases h.1
    | some x =>
      refine ⟨?_, ?_, ?_⟩
      · show (true && (backToKw pos (keywordEach kws env)).all (·.1.isSome)) = true
        rw [h1]
        rfl
      · show (false || (backToKw pos (keywordEach kws env)).any (·.1.isNone)) = false
        rw [h2]
        rfl
      · show x :: (backToKw pos (keywordEach kws env)).filterMap (·.1) = x :: kws.filterMap (·.arg)
        rw [h3]
theorem snd_callk {i kk : Nat} {x : Str} {p : Pos} {f : Addr} {fd : FuncData} {ps ks : List Str} {pl : List Nat} {kas : Es} {kws : List Keyword} (M : G.Mono) (Fk : FnG X.prog X.w X.K X.mg X.base kk f fd ps (spF G X.K i)) (hr : Room kk X.A) (hg : X.A.guards = some []) (hx : Gl X x)
    (hm : X.mg x = some (.ref f)) (hk : PySem.W.keepIn X.K (.ref f) = true) (hb : KwB fd ps (esLen as) ks pl) (hd : (x == ("__debug__" : Str)) = false) (hs : SndA G X as eas) (hn : eas.all noStar = true) (hw : SndK G X kas kws) (hks : kws.filterMap (·.arg) = ks) (hall : kws.all (·.arg.isSome) = true) (hlk : esLen kas = ks.length) (hle : eas = [] → as = .nil) :
    SndE G X (.callk i pl (esApp as kas)) (.Call (.Name x p) eas kws pos) := by
  intro F τ own C σd W σ H R hK s k
  simp only [wpE, wpEs_app] at k
  obtain ⟨a1, a2, a3⟩ := kw_some (env := X.env) (pos := pos) hall
  rw [hks] at a3
  have fin : ∀ {ds : List D} {W1 : Ce} {vs : List V} {H1 : Hp} {C1 : List Addr}, ds.length = vs.length → ds.length = esLen as → Sim F (tmps ds vs τ) own C1 σd W1 σ H1 →
      wpEs G kas σd W1 (fun es W2 => nbs (ds ++ es) = true ∧ G.call i (permD pl (ds ++ es)) W2 fun d W' => ∀ v H' C', Sim F ((d, v) :: τ) own C' σd W' σ H' → R v H') →
      bK X kws σ H1 (fun zs H2 => vs.length = esLen as ∧ zs.length = ks.length ∧ spF G X.K i (permW pl (vs ++ zs)) H2 R) := by
    intro ds W1 vs H1 C1 hl hl2 s1 k
    refine hw hK s1 (wpEs_mono M kas (fun es W2 k zs H2 C2 hz s2 => ?_) (wpEs_len M k))
    refine ⟨hl.symm.trans hl2, by rw [← hz, k.1, hlk], ?_⟩
    have nb := k.2.1
    simp only [nbs, List.all_append, Bool.and_eq_true] at nb
    have r1 := (s2.drop).reps hl nb.1
    have r2 := s2.reps hz nb.2
    refine call_pre hK M s2.drop.drop (permD_reps (r1.append r2) pl) k.2.2
  cases eas with
  | nil =>
    cases hle rfl
    have k0 := k
    simp only [wpEs] at k0
    refine bE_of (pe_GK0 Fk hr hg hx hm hk hb bK_ok hd a1 a3 (by rw [a2]; rfl)) ?_
    exact fin (ds := []) (vs := []) rfl rfl s k0
  | cons e r =>
    have hn' := hn
    simp only [List.all_cons, Bool.and_eq_true] at hn'
    refine bE_of (pe_GK Fk hr hg hx hm hk hb bA_ok bK_ok hd a1 a3 (star_cons hn'.1) (by rw [a2, star_none hn]; rfl)) (hs hK s (wpEs_mono M as (fun ds W1 k vs H1 C1 hl s1 => ?_) (wpEs_len M k)))
    exact fin hl k.1 s1 k.2
theorem snd_bi {q : Bi} {n : Nat} {p : Pos} {e : Expr} (M : G.Mono) (hv : ∀ {Q : Value → Shared → Prop} {E : Value → Shared → Prop} {pins : List (Addr × Obj)} {s : Shared} {σ : L2.St} {H : Hp}, Inv X pins σ H s → Q (biVal q) s → wpAny (model X.prog X.w) X.A (eval (.Name (biName q) p) X.env) Q E s)
    (hc : X.calm = true) (hr : Room n X.A) (hg : X.A.guards = some []) (hs : SndA G X as (e :: eas)) (hn : (e :: eas).all noStar = true) : SndE G X (.bi q as) (.Call (.Name (biName q) p) (e :: eas) [] pos) := by
  intro F τ own C σd W σ H R hK s k
  simp only [wpE] at k
  have hn' := hn
  simp only [List.all_cons, Bool.and_eq_true] at hn'
  have core : bA X (e :: eas) σ H fun vs H1 => rC X (biVal q) vs H1 R := hs hK s (wpEs_mono M as (fun ds W1 k vs H1 C1 hl s1 =>
    bi_snd hK hc hg hr s1 (s1.repUs hl) k fun z v H' kz sz => kz v H' C1 sz.drop1) k)
  intro pins s0 I
  refine wpAny_Call_Name_kw (hv I ?_)
  have fin : ∀ {us : List Value} {s1 : Shared}, AP X pins σ (fun vs H1 => rC X (biVal q) vs H1 R) us s1 → wpAny (model X.prog X.w) X.A (PySem.call (biVal q) us) (EP X pins σ R) X.xe s1 := fun {us s1} h => by
    obtain ⟨vs, H1, I1, r, q'⟩ := h
    exact q' pins s1 σ us I1 r
  have hcore := thn (core pos pins s0 I) fun us s1 h => fin h
  cases q with
  | int1 | tuple1 | list1 => exact PyProof.Rows.callWith_type1 hcore (star_cons hn'.1) (star_none hn'.2)
  | _ => exact PyProof.Rows.callWith_builtin1 hcore (star_cons hn'.1) (star_none hn'.2)
theorem snd_bits {apos : Pos} {x : Str} {q : Pos} (M : G.Mono) (ha : SndE G X a (.Name x q)) (hl : (apos.endLine == pos.line) = true) : SndE G X (.bits a) (.Call (.Attribute (.Name x q) "bit_length" apos) [] [] pos) := by
  intro F τ own C σd W σ H R hK s k
  simp only [wpE] at k
  refine bE_of (pe_bits bE_ok (by rfl) hl) (ha hK s (wpE_mono M a (fun x W1 k v H1 C1 s1 => ?_) k))
  have rx := s1.view List.mem_cons_self
  generalize Bn.view σd W1 x = z at rx k
  cases z with
  | int i =>
    cases rx.int
    exact ⟨i, rfl, k _ H1 C1 (s1.push (.inl (.int _))).pop2⟩
  | _ => exact k.elim
theorem snd_isi {T n : Nat} {p p2 : Pos} (M : G.Mono) (hT : T < 5) (hg : Gl X "isinstance") (hm : X.mg "isinstance" = none) (hg2 : Gl X (tyName T)) (hm2 : X.mg (tyName T) = none) (hb2 : bootBuiltins (tyName T) = some (.type (tyName T))) (hd2 : ((tyName T : Str) == ("__debug__" : Str)) = false) (hn2 : (tyName T : Str) ≠ "__name__")
    (ha : SndE G X a ea) (hn : noStar ea = true) : SndE G X (.isi a T) (.Call (.Name "isinstance" p) [ea, .Name (tyName T) p2] [] pos) := by
  intro F τ own C σd W σ H R hK s k
  simp only [wpE] at k
  have s1 : noStar (.Name (tyName T) p2) = true := rfl
  refine bE_of (pe_callB (id := "isinstance") (r := rC X (.builtin "isinstance")) rC_ok hg hm (by decide +kernel) (pa_cons bE_ok (pa_cons (pe_bltn (v := .ty (tyName T)) hg2 hm2 hb2 rfl hn2 hd2) pa_nil (star_cons rfl)) (star_cons hn)) (by decide) (by decide) (star_cons hn) (star_none (by rfl))) ?_
  refine ha hK s (wpE_mono M a (fun x W1 k v H1 C1 s1 => ?_) k)
  split at k
  · rename_i b e
    exact isi_snd hT hK s1 (s1.view List.mem_cons_self) e (k _ H1 C1 (s1.push (.inl (.bl b))).pop2)
  · exact k.elim
end
end Bn

set_option Elab.async false
set_option linter.all false
set_option maxRecDepth 100000
/-! Bn, part 9: what is walked, targets, comprehensions. -/
namespace Bn
open PySem PySem.Spec PyProof.Rows L2

/-! ### lists that a comprehension is making -/
def setOwn (own : Own) (j : Nat) (p : Addr) : Own := fun i => if i = j then some p else own i
theorem setOwn_same {own : Own} {j : Nat} {p : Addr} : setOwn own j p j = some p := if_pos rfl
theorem setOwn_ne {own : Own} {i j : Nat} {p : Addr} (h : i ≠ j) : setOwn own j p i = own i := if_neg h
section
variable {F : Frm} {τ τ' : List (D × V)} {own : Own} {C : List Addr} {σd : Sl} {W : Ce} {σ : L2.St} {H : Hp} {j : Nat} {p : Addr}
theorem RepT.nb {K : PySem.W.Frag} {P : Addr → Prop} {own : Own} {C : List Addr} {H : Hp} {d : D} {v : V} (r : RepT K P own C H d v) (h : d.nb = true) : Rep K (Av P own) C H d v := by
  rcases r with r | ⟨i, a, e1, _, _⟩ | ⟨i, a, vs, e1, _⟩
  · exact r
  · subst e1; cases h
  · subst e1; cases h
theorem RepT.noPin {K : PySem.W.Frag} {P : Addr → Prop} {own : Own} {C : List Addr} {H : Hp} {d : D} {v : V} {j : Nat} (r : RepT K P own C H d v) (h : own j = none) : ∀ vs, d ≠ .pin j vs := by
  intro vs e
  subst e
  rcases r with r | ⟨i, a, e1, _, _⟩ | ⟨i, a, vs, e1, e2, _⟩
  · cases r
  · cases e1
  · cases e1; rw [h] at e2; cases e2
/-- a new list, owned by an index that is no slot's -/
theorem Sim.newOwn (s : Sim F τ own C σd W σ H) {ds : List D} {vs : List V} (hp : H p = none) (hj : own j = none) (hl : σd.length ≤ j) (r : Reps F.K (Av F.P own) C H ds vs) :
    Sim F ((.pin j vs, .ref p) :: τ) (setOwn own j p) C σd W σ (upd H p (.lst vs)) ∧ Reps F.K (Av F.P (setOwn own j p)) C (upd H p (.lst vs)) ds vs := by
  have av : ∀ a, Av F.P (setOwn own j p) a → Av F.P own a ∨ H a = none := fun a z => by
    rcases z with z | ⟨i, z⟩
    · exact .inl (.inl z)
    · by_cases e : i = j
      · subst e
        rw [setOwn_same] at z
        cases z
        exact .inr hp
      · rw [setOwn_ne e] at z
        exact .inl (.inr ⟨i, z⟩)
  have g : Go F.K (Av F.P own) (Av F.P (setOwn own j p)) C C H (upd H p (.lst vs)) := ⟨Keep.new _ hp, av, fun _ _ z => z, fun _ z => .inl z⟩
  have k : ∀ {a : Addr} {ws : List V}, H a = some (.lst ws) → upd H p (.lst vs) a = some (.lst ws) := fun {a ws} e => by
    rw [upd_ne (ne_of_none e hp)]; exact e
  have ne : ∀ {i : Nat} {a : Addr}, own i = some a → i ≠ j := fun {i a} e z => by subst z; rw [hj] at e; cases e
  refine ⟨⟨fun q hq => ?_, s.len, fun i d e => ?_, fun i es e => ?_, fun i i' a e1 e2 => ?_, fun i a e => ?_, ?_, s.cl, fun i a es e1 e2 => ?_, s.cn, s.cp, s.cx, s.cnew, s.kp.trans (Keep.new _ hp), s.pl⟩, r.go g⟩
  · rcases List.mem_cons.mp hq with z | hq
    · subst z
      exact .inr (.inr ⟨j, p, vs, rfl, setOwn_same, rfl, upd_same⟩)
    · rcases s.tmp q hq with r | ⟨i, a, e1, e2, e3⟩ | ⟨i, a, ws, e1, e2, e3, e4⟩
      · exact .inl (r.go g)
      · exact .inr (.inl ⟨i, a, e1, by rw [setOwn_ne (ne e2)]; exact e2, e3⟩)
      · exact .inr (.inr ⟨i, a, ws, e1, by rw [setOwn_ne (ne e2)]; exact e2, e3, k e4⟩)
  · obtain ⟨v, e1, r⟩ := s.sh i d e
    exact ⟨v, e1, r.go g⟩
  · obtain ⟨a, ws, e1, e2, e3, r⟩ := s.ow i es e
    exact ⟨a, ws, by rw [setOwn_ne (ne e1)]; exact e1, e2, k e3, r.go g⟩
  · by_cases h1 : i = j
    · by_cases h2 : i' = j
      · exact h1.trans h2.symm
      · subst h1
        rw [setOwn_same] at e1
        cases e1
        rw [setOwn_ne h2] at e2
        obtain ⟨ws, z⟩ := (s.olt i' _ e2).2.1
        rw [hp] at z; cases z
    · by_cases h2 : i' = j
      · subst h2
        rw [setOwn_same] at e2
        cases e2
        rw [setOwn_ne h1] at e1
        obtain ⟨ws, z⟩ := (s.olt i _ e1).2.1
        rw [hp] at z; cases z
      · rw [setOwn_ne h1] at e1
        rw [setOwn_ne h2] at e2
        exact s.oin i i' a e1 e2
  · by_cases h1 : i = j
    · subst h1
      rw [setOwn_same] at e
      cases e
      exact ⟨s.free0 hp, ⟨vs, upd_same⟩, s.newC hp, fun z => s.newAv hp (.inl z)⟩
    · rw [setOwn_ne h1] at e
      obtain ⟨e1, ⟨ws, e2⟩, e3⟩ := s.olt i a e
      exact ⟨e1, ⟨ws, k e2⟩, e3⟩
  · obtain ⟨B, hB⟩ := s.fin
    exact ⟨max B (j + 1), fun i hi => by rw [setOwn_ne (by omega)]; exact hB i (by omega)⟩
  · obtain ⟨ws, h1, r⟩ := s.ce i a es e1 e2
    exact ⟨ws, k h1, r.go g⟩
/-- .. it grows -/
theorem Sim.vset (s : Sim F τ own C σd W σ H) {ds : List D} {vs : List V} (hj : own j = some p) (hl : σd.length ≤ j) (nop : ∀ q ∈ τ, ∀ ws, q.1 ≠ .pin j ws) (r : Reps F.K (Av F.P own) C H ds vs) :
    Sim F ((.pin j vs, .ref p) :: τ) own C σd W σ (upd H p (.lst vs)) ∧ Reps F.K (Av F.P own) C (upd H p (.lst vs)) ds vs := by
  obtain ⟨h0, ⟨us, h1⟩, h2, h3⟩ := s.olt j p hj
  have g : Go F.K (Av F.P own) (Av F.P own) C C H (upd H p (.lst vs)) := ⟨Keep.upd h1 (.inl (.inr ⟨j, hj⟩)), fun _ z => .inl z, fun _ _ z => z, fun _ z => .inl z⟩
  have k : ∀ {a : Addr} {ws : List V}, H a = some (.lst ws) → a ≠ p → upd H p (.lst vs) a = some (.lst ws) := fun {a ws} e n => by
    rw [upd_ne n]; exact e
  have apart : ∀ {i : Nat} {a : Addr}, own i = some a → i ≠ j → a ≠ p := fun {i a} e n z => by subst z; exact n (s.oin i j _ e hj)
  refine ⟨⟨fun q hq => ?_, s.len, fun i d e => ?_, fun i es e => ?_, s.oin, fun i a e => ?_, s.fin, s.cl, fun i a es e1 e2 => ?_, s.cn, s.cp, s.cx, s.cnew, fun a o e n => ?_, s.pl⟩, r.go g⟩
  · rcases List.mem_cons.mp hq with z | hq'
    · subst z
      exact .inr (.inr ⟨j, p, vs, rfl, hj, rfl, upd_same⟩)
    · rcases s.tmp q hq' with r | ⟨i, a, e1, e2, e3⟩ | ⟨i, a, ws, e1, e2, e3, e4⟩
      · exact .inl (r.go g)
      · exact .inr (.inl ⟨i, a, e1, e2, e3⟩)
      · refine .inr (.inr ⟨i, a, ws, e1, e2, e3, k e4 (apart e2 fun z => ?_)⟩)
        subst z
        exact nop q hq' ws e1
  · obtain ⟨v, e1, r⟩ := s.sh i d e
    exact ⟨v, e1, r.go g⟩
  · obtain ⟨a, ws, e1, e2, e3, r⟩ := s.ow i es e
    have hi : i < σd.length := (List.getElem?_eq_some_iff.mp e).1
    exact ⟨a, ws, e1, e2, k e3 (apart e1 (by omega)), r.go g⟩
  · obtain ⟨e1, ⟨ws, e2⟩, e3⟩ := s.olt i a e
    by_cases n : a = p
    · subst n
      exact ⟨e1, ⟨vs, upd_same⟩, e3⟩
    · exact ⟨e1, ⟨ws, k e2 n⟩, e3⟩
  · obtain ⟨ws, h1, r⟩ := s.ce i a es e1 e2
    exact ⟨ws, k h1 fun z => by subst z; exact h2 (List.mem_of_getElem? e1), r.go g⟩
  · have n' : a ≠ p := fun z => by subst z; rw [h0] at e; cases e
    rw [upd_ne n']
    exact s.kp a o e n
/-- .. it is nobody's any more -/
theorem Sim.disown (s : Sim F τ (setOwn own j p) C σd W σ H) {ds : List D} {vs : List V} (hj : own j = none) (hl : σd.length ≤ j) (hH : H p = some (.lst vs)) (r : Reps F.K (Av F.P (setOwn own j p)) C H ds vs)
    (ht : ∀ q ∈ τ', q ∈ τ ∧ RepT F.K F.P own C H q.1 q.2) : Sim F τ' own C σd W σ H ∧ Rep F.K (Av F.P own) C H (.lst ds) (.ref p) := by
  have av : ∀ a, Av F.P own a → Av F.P (setOwn own j p) a ∨ H a = none := fun a z => by
    rcases z with z | ⟨i, z⟩
    · exact .inl (.inl z)
    · have n : i ≠ j := fun e => by subst e; rw [hj] at z; cases z
      exact .inl (.inr ⟨i, by rw [setOwn_ne n]; exact z⟩)
  have g : Go F.K (Av F.P (setOwn own j p)) (Av F.P own) C C H H := ⟨Keep.refl _ _, av, fun _ _ z => z, fun _ z => .inl z⟩
  have ne : ∀ {i : Nat} {a : Addr}, own i = some a → i ≠ j := fun {i a} e z => by subst z; rw [hj] at e; cases e
  have sub : ∀ {i : Nat} {a : Addr}, own i = some a → setOwn own j p i = some a := fun {i a} e => by rw [setOwn_ne (ne e)]; exact e
  refine ⟨⟨fun q hq => (ht q hq).2, s.len, fun i d e => ?_, fun i es e => ?_, fun i i' a e1 e2 => s.oin i i' a (sub e1) (sub e2), fun i a e => s.olt i a (sub e), ?_, s.cl, fun i a es e1 e2 => ?_, s.cn, s.cp, s.cx, s.cnew, s.kp, s.pl⟩, ?_⟩
  · obtain ⟨v, e1, r⟩ := s.sh i d e
    exact ⟨v, e1, r.go g⟩
  · obtain ⟨a, ws, e1, e2, e3, r⟩ := s.ow i es e
    have hi : i < σd.length := (List.getElem?_eq_some_iff.mp e).1
    rw [setOwn_ne (by omega)] at e1
    exact ⟨a, ws, e1, e2, e3, r.go g⟩
  · obtain ⟨B, hB⟩ := s.fin
    refine ⟨max B (j + 1), fun i hi => ?_⟩
    have z := hB i (by omega)
    rw [setOwn_ne (by omega)] at z
    exact z
  · obtain ⟨ws, h1, r⟩ := s.ce i a es e1 e2
    exact ⟨ws, h1, r.go g⟩
  · refine .lst hH (fun z => ?_) (s.olt j p setOwn_same).2.2.1 (r.go g)
    rcases z with z | ⟨i, z⟩
    · exact (s.olt j p setOwn_same).2.2.2 z
    · exact ne z (s.oin i j p (sub z) setOwn_same)

/-! ### blocks -/
theorem wipeD_length (σ : Sl) : ∀ vs : List Nat, (wipeD σ vs).length = σ.length
  | [] => rfl
  | v :: vs => by unfold wipeD; rw [List.length_set, wipeD_length σ vs]
theorem wipeD_out {σ : Sl} {i : Nat} : ∀ {vs : List Nat}, i ∉ vs → (wipeD σ vs)[i]? = σ[i]?
  | [], _ => rfl
  | v :: vs, h => by
    unfold wipeD
    rw [List.getElem?_set_ne (fun e => h (by rw [e]; exact List.mem_cons_self)), wipeD_out fun z => h (List.mem_cons_of_mem _ z)]
theorem wipeD_in {σ : Sl} {i : Nat} : ∀ {vs : List Nat}, i ∈ vs → (wipeD σ vs)[i]? = some .no ∨ (wipeD σ vs)[i]? = none
  | v :: vs, h => by
    by_cases e : v = i
    · subst e
      unfold wipeD
      by_cases hl : v < (wipeD σ vs).length
      · exact .inl (by rw [List.getElem?_set_self hl])
      · exact .inr (List.getElem?_eq_none (by rw [List.length_set]; omega))
    · unfold wipeD
      rw [List.getElem?_set_ne e]
      exact wipeD_in ((List.mem_cons.mp h).resolve_left fun z => e z.symm)
theorem wipe_out {σ : L2.St} {i : Nat} : ∀ {vs : List Nat}, i ∉ vs → (wipe σ vs)[i]? = σ[i]?
  | [], _ => rfl
  | v :: vs, h => by
    unfold wipe
    rw [List.getElem?_set_ne (fun e => h (by rw [e]; exact List.mem_cons_self)), wipe_out fun z => h (List.mem_cons_of_mem _ z)]
theorem wipe_ext {σ σ' : L2.St} (hl : σ.length = σ'.length) : ∀ {vs : List Nat}, (∀ i, i ∉ vs → σ[i]? = σ'[i]?) → wipe σ vs = wipe σ' vs := by
  intro vs h
  apply List.ext_getElem?
  intro i
  by_cases hi : i ∈ vs
  · have aux : ∀ {vs : List Nat} (ρ : L2.St), i ∈ vs → (wipe ρ vs)[i]? = if i < ρ.length then some none else none := by
      intro vs ρ hi
      induction vs with
      | nil => cases hi
      | cons v vs ih =>
        unfold wipe
        by_cases e : v = i
        · subst e
          by_cases hlt : v < ρ.length
          · rw [List.getElem?_set_self (by rw [wipe_length]; exact hlt), if_pos hlt]
          · rw [List.getElem?_eq_none (by rw [List.length_set, wipe_length]; omega), if_neg hlt]
        · rw [List.getElem?_set_ne e]
          exact ih ((List.mem_cons.mp hi).resolve_left fun z => e z.symm)
    rw [aux σ hi, aux σ' hi, hl]
  · rw [wipe_out hi, wipe_out hi]
    exact h i hi
theorem wipeD_ext {σ σ' : Sl} (hl : σ.length = σ'.length) : ∀ {vs : List Nat}, (∀ i, i ∉ vs → σ[i]? = σ'[i]?) → wipeD σ vs = wipeD σ' vs := by
  intro vs h
  apply List.ext_getElem?
  intro i
  by_cases hi : i ∈ vs
  · have aux : ∀ {vs : List Nat} (ρ : Sl), i ∈ vs → (wipeD ρ vs)[i]? = if i < ρ.length then some .no else none := by
      intro vs ρ hi
      induction vs with
      | nil => cases hi
      | cons v vs ih =>
        unfold wipeD
        by_cases e : v = i
        · subst e
          by_cases hlt : v < ρ.length
          · rw [List.getElem?_set_self (by rw [wipeD_length]; exact hlt), if_pos hlt]
          · rw [List.getElem?_eq_none (by rw [List.length_set, wipeD_length]; omega), if_neg hlt]
        · rw [List.getElem?_set_ne e]
          exact ih ((List.mem_cons.mp hi).resolve_left fun z => e z.symm)
    rw [aux σ hi, aux σ' hi, hl]
  · rw [wipeD_out hi, wipeD_out hi]
    exact h i hi
/-- the shared slots' values -/
def slotT (x : Option SV) (y : Option (Option V)) : Option (D × V) := match x, y with
  | some (.sh d), some (some v) => some (d, v)
  | _, _ => none
def slotsT (σd : Sl) (σ : L2.St) : List (D × V) := (List.range σd.length).filterMap fun (i : Nat) => slotT σd[i]? σ[i]?
theorem slots_in {i : Nat} {d : D} {v : V} (h1 : σd[i]? = some (.sh d)) (h2 : σ[i]? = some (some v)) : (d, v) ∈ slotsT σd σ :=
  List.mem_filterMap.mpr ⟨i, List.mem_range.mpr (List.getElem?_eq_some_iff.mp h1).1, by rw [h1, h2]; rfl⟩
theorem of_slots {q : D × V} (h : q ∈ slotsT σd σ) : ∃ i : Nat, σd[i]? = some (.sh q.1) ∧ σ[i]? = some (some q.2) := by
  obtain ⟨i, _, e⟩ := List.mem_filterMap.mp h
  refine ⟨i, ?_⟩
  unfold slotT at e
  split at e
  · rename_i d v e1 e2
    cases e
    exact ⟨e1, e2⟩
  · cases e
theorem Sim.slots (s : Sim F τ own C σd W σ H) : Sim F (slotsT σd σ ++ τ) own C σd W σ H := by
  refine { s with tmp := fun q hq => ?_ }
  rcases List.mem_append.mp hq with h | h
  · obtain ⟨i, e1, e2⟩ := of_slots h
    obtain ⟨v, e3, r⟩ := s.sh i _ e1
    rw [e2] at e3
    cases e3
    exact .inl r
  · exact s.tmp q h
/-- a block begins: its own slots are forgotten -/
theorem Sim.block (s : Sim F τ own C σd W σ H) (vs : List Nat) : Sim F τ own C (wipeD σd vs) W (wipe σ vs) H := by
  refine { s with len := by rw [wipe_length, wipeD_length]; exact s.len, sh := fun i d e => ?_, ow := fun i d e => ?_ }
  · by_cases hi : i ∈ vs
    · rcases wipeD_in (σ := σd) hi with z | z <;> rw [z] at e <;> cases e
    · rw [wipeD_out hi] at e
      obtain ⟨v, e1, r⟩ := s.sh i d e
      exact ⟨v, by rw [wipe_out hi]; exact e1, r⟩
  · by_cases hi : i ∈ vs
    · rcases wipeD_in (σ := σd) hi with z | z <;> rw [z] at e <;> cases e
    · rw [wipeD_out hi] at e
      obtain ⟨a, ws, e1, e2, e3⟩ := s.ow i d e
      exact ⟨a, ws, e1, by rw [wipe_out hi]; exact e2, e3⟩
theorem noOw_ok {σ : Sl} {vs : List Nat} (h : noOw σ vs = true) {i : Nat} {ds : List D} (e : σ[i]? = some (.ow ds)) : i ∉ vs := fun hi => by
  have := List.all_eq_true.mp h i hi
  simp only [e] at this
  cases this
/-- .. and ends -/
theorem Sim.unblock {C' : List Addr} {W' : Ce} {H' : Hp} {vs : List Nat} (s0 : Sim F τ own C σd W σ H) (s : Sim F τ' own C' (wipeD σd vs) W' (wipe σ vs) H') (hs : ∀ q ∈ slotsT σd σ, q ∈ τ') (hn : noOw σd vs = true) : Sim F τ' own C' σd W' σ H' := by
  refine { s with len := s0.len, sh := fun i d e => ?_, ow := fun i d e => ?_ }
  · obtain ⟨v, e1, r⟩ := s0.sh i d e
    exact ⟨v, e1, (s.tmp (d, v) (hs _ (slots_in e e1))).nb r.nb⟩
  · have hi := noOw_ok hn e
    obtain ⟨a, ws, e1, e2, e3⟩ := s.ow i d (by rw [wipeD_out hi]; exact e)
    exact ⟨a, ws, e1, by rw [wipe_out hi] at e2; exact e2, e3⟩
end
end Bn

set_option Elab.async false
set_option linter.all false
set_option maxRecDepth 100000
/-! Bn, part 10: what is walked, targets, comprehensions. -/
namespace Bn
open PySem PySem.Spec PyProof.Rows L2

/-! ### what is walked -/
def ItOk (K : PySem.W.Frag) (st : Bool) (σ0 : Sl) (J : It) (xs : List D) (src : List (D × V)) : Prop := ∀ {F : Frm} {τ : List (D × V)} {own : Own} {C : List Addr} {σd : Sl} {W : Ce} {σ : L2.St} {H : Hp}, F.K = K → Sim F τ own C σd W σ H →
  (∀ p ∈ src, p ∈ τ) → (st = true ∨ ∀ (i : Nat) (ys : List D), σ0[i]? = some (.ow ys) → σd[i]? = some (.ow ys)) → ∀ i : Nat, (xs.length ≤ i → J.stop i H) ∧ ∀ d, xs[i]? = some d → J.go i H ∧ ∀ x H', J.yld i H x H' → Sim F ((d, x) :: τ) own C σd W σ H'
def bI (X : Cx) (tg iter : Expr) : TI := fun σ H R => ∀ (pins : List (Addr × Obj)) (s : Shared), Inv X pins σ H s → wpAny (model X.prog X.w) X.A (eval iter X.env) (fun v s1 => wpAny (model X.prog X.w) X.A (pyIter v) (PIE X pins σ tg R) X.xe s1) X.xe s
theorem bI_ok {X : Cx} {tg iter : Expr} : PI X tg iter (bI X tg iter) := ⟨fun pins s σ H R I h => h pins s I⟩
theorem bI_of {X : Cx} {tg iter : Expr} {t : TI} (h : PI X tg iter t) {σ : L2.St} {H : Hp} {R : It → Hp → Prop} (k : t σ H R) : bI X tg iter σ H R := fun pins s I => h.run pins s σ H R I k
def SndI (G : Env) (X : Cx) (st : Bool) (m : I) (tg iter : Expr) : Prop := ∀ {F : Frm} {τ : List (D × V)} {own : Own} {C : List Addr} {σd : Sl} {W : Ce} {σ : L2.St} {H : Hp} {R : It → Hp → Prop}, F.K = X.K → Sim F τ own C σd W σ H →
  wpI G st m σd W (fun xs W' => ∀ J H' C' src, (st = true → ∀ p ∈ src, p.1.nb = true) → ItOk X.K st σd J xs src → Sim F (src ++ τ) own C' σd W' σ H' → R J H') → bI X tg iter σ H R

section
variable {G : Env} {X : Cx} {pos : Pos} {a b c : E} {ea eb ec tg : Expr}
theorem iterL {pins : List (Addr × Obj)} {σ : L2.St} {H : Hp} {s : Shared} {R : It → Hp → Prop} {p : Addr} {xs : List V} (I : Inv X pins σ H s) (h : SqL X.K H p xs) (q : R (Itl X.K p) H) : wpAny (model X.prog X.w) X.A (pyIter (.ref p)) (PIE X pins σ tg R) X.xe s := by
  obtain ⟨its, _, pl, _⟩ := I.list h
  refine wpAny_pyIter_list pl.isList ⟨s.heap.objs.size, [s.heap.objs.size], _, _, H, rfl, I.kept (t' := s.toks) fun b o e => Heap.get?_push_of_some _ e, turn_list p _, ⟨_, Heap.get?_push_size _ rfl, rfl, rfl⟩, fun b hb => ?_, q⟩
  have e : b = s.heap.objs.size := by simpa using hb
  subst e
  exact I.fpOk (Nat.le_refl _) (I.hok.fresh (Nat.le_refl _))
theorem iterT {pins : List (Addr × Obj)} {σ : L2.St} {H : Hp} {s : Shared} {R : It → Hp → Prop} {p : Addr} {xs : List V} (I : Inv X pins σ H s) (h : SqT X.K H p xs) (q : R (Itt X.K p) H) : wpAny (model X.prog X.w) X.A (pyIter (.ref p)) (PIE X pins σ tg R) X.xe s := by
  obtain ⟨its, _, pl, _⟩ := I.tuple h
  refine wpAny_pyIter_tuple (show s.heap.IsTuple p its.toArray from pl) ⟨s.heap.objs.size, [s.heap.objs.size], _, _, H, rfl, I.kept (t' := s.toks) fun b o e => Heap.get?_push_of_some _ e, turn_tuple p _, ⟨_, Heap.get?_push_size _ rfl, rfl, rfl⟩, fun b hb => ?_, q⟩
  have e : b = s.heap.objs.size := by simpa using hb
  subst e
  exact I.fpOk (Nat.le_refl _) (I.hok.fresh (Nat.le_refl _))

/-- what a walked value shows at any later time -/
theorem later {K : PySem.W.Frag} {st : Bool} {σ0 : Sl} {W0 : Ce} {F : Frm} {τ : List (D × V)} {own : Own} {C : List Addr} {σd : Sl} {W : Ce} {σ : L2.St} {H : Hp} {d : D} {v : V} (hi : itOk st d = true) (s : Sim F τ own C σd W σ H) (h : (d, v) ∈ τ)
    (k : st = true ∨ ∀ (i : Nat) (ys : List D), σ0[i]? = some (.ow ys) → σd[i]? = some (.ow ys)) {ys : List D} (e : view σ0 W0 d = .lst ys ∨ view σ0 W0 d = .tup ys) : view σd W d = view σ0 W0 d := by
  cases d with
  | bor i =>
    rcases k with k | k
    · subst k; cases hi
    · unfold view at e ⊢
      dsimp only at e ⊢
      cases q : σ0[i]? with
      | none => rw [q] at e; rcases e with e | e <;> cases e
      | some sv =>
        cases sv with
        | ow zs => rw [k i zs q]
        | _ => rw [q] at e; rcases e with e | e <;> cases e
  | cell i => cases hi
  | _ => rfl
theorem itok_list {st : Bool} {σ0 : Sl} {W0 : Ce} {d : D} {p : Addr} {ys : List D} (hi : itOk st d = true) (e : view σ0 W0 d = .lst ys) : ItOk X.K st σ0 (Itl X.K p) ys [(d, .ref p)] := by
  intro F τ own C σd W σ H hK s hs k i
  have hm := hs _ List.mem_cons_self
  have rv := s.view hm
  rw [later (K := X.K) hi s hm k (.inl e), e] at rv
  obtain ⟨q, vs, e1, h1, r⟩ := rv.lst
  cases e1
  refine ⟨fun hl => ⟨vs, SqL.of h1, by rw [← r.length]; exact hl⟩, fun d' hd => ?_⟩
  obtain ⟨v, hv, rr⟩ := r.get hd
  refine ⟨⟨vs, v, SqL.of h1, hv⟩, fun x H' y => ?_⟩
  obtain ⟨rfl, y⟩ := y
  rw [y vs (SqL.of h1)] at hv
  cases hv
  exact s.push (.inl rr)
theorem itok_tup {st : Bool} {σ0 : Sl} {W0 : Ce} {d : D} {p : Addr} {ys : List D} (hi : itOk st d = true) (e : view σ0 W0 d = .tup ys) : ItOk X.K st σ0 (Itt X.K p) ys [(d, .ref p)] := by
  intro F τ own C σd W σ H hK s hs k i
  have hm := hs _ List.mem_cons_self
  have rv := s.view hm
  rw [later (K := X.K) hi s hm k (.inr e), e] at rv
  obtain ⟨q, vs, e1, h1, r⟩ := rv.tup
  cases e1
  rw [hK] at h1
  refine ⟨fun hl => ⟨vs, h1, by rw [← r.length]; exact hl⟩, fun d' hd => ?_⟩
  obtain ⟨v, hv, rr⟩ := r.get hd
  refine ⟨⟨vs, v, h1, hv⟩, fun x H' y => ?_⟩
  obtain ⟨rfl, y⟩ := y
  rw [y vs h1] at hv
  cases hv
  exact s.push (.inl rr)
theorem itok_scr {st : Bool} {σ0 : Sl} {ns : List Int} {p : Addr} : ItOk X.K st σ0 (Itl X.K p) (ns.map D.int) [(.scr ns, .ref p)] := by
  intro F τ own C σd W σ H hK s hs k i
  have rv := s.view (hs _ List.mem_cons_self)
  obtain ⟨q, e1, h1⟩ := RepU.scr rv
  cases e1
  rw [hK] at h1
  refine ⟨fun hl => ⟨_, h1.sq, by simpa using hl⟩, fun d' hd => ?_⟩
  rw [List.getElem?_map, Option.map_eq_some_iff] at hd
  obtain ⟨n, hn, rfl⟩ := hd
  have hv : (ns.map V.int)[i]? = some (.int n) := by rw [List.getElem?_map, hn]; rfl
  refine ⟨⟨_, _, h1.sq, hv⟩, fun x H' y => ?_⟩
  obtain ⟨rfl, y⟩ := y
  rw [y _ h1.sq] at hv
  cases hv
  exact s.push (.inl (.int n))
theorem itok_rng {st : Bool} {σ0 : Sl} {lo : Int} {n : Nat} : ItOk X.K st σ0 (Itr lo n) (rngD lo n) [] := by
  intro F τ own C σd W σ H hK s hs k i
  have hl : (rngD lo n).length = n := by unfold rngD; rw [List.length_map, List.length_range]
  refine ⟨fun h => ?_, fun d' hd => ?_⟩
  · rw [hl] at h
    exact h
  · have hi : i < n := by rw [← hl]; exact (List.getElem?_eq_some_iff.mp hd).1
    refine ⟨hi, fun x H' y => ?_⟩
    obtain ⟨rfl, rfl⟩ := y
    unfold rngD at hd
    rw [List.getElem?_map, List.getElem?_range hi] at hd
    cases hd
    exact s.push (.inl (.int _))
theorem zipD_get : ∀ {xs ys : List D} {i : Nat} {d : D}, (zipD xs ys)[i]? = some d → ∃ x y, xs[i]? = some x ∧ ys[i]? = some y ∧ d = .tup [x, y]
  | x :: xs, y :: ys, 0, d, h => by
    simp only [zipD, List.getElem?_cons_zero, Option.some.injEq] at h
    exact ⟨x, y, rfl, rfl, h.symm⟩
  | x :: xs, y :: ys, i + 1, d, h => by
    simp only [zipD, List.getElem?_cons_succ] at h
    obtain ⟨a, b, h1, h2, h3⟩ := zipD_get h
    exact ⟨a, b, by simpa using h1, by simpa using h2, h3⟩
  | [], _, _, _, h => by simp [zipD] at h
  | _ :: _, [], _, _, h => by simp [zipD] at h
theorem zipD_length : ∀ {xs ys : List D}, xs.length = ys.length → (zipD xs ys).length = xs.length
  | [], [], _ => rfl
  | [], _ :: _, h => by simp at h
  | _ :: _, [], h => by simp at h
  | x :: xs, y :: ys, h => by
    simp only [zipD, List.length_cons]
    rw [zipD_length (by simpa using h)]
theorem enumD_get : ∀ {n : Nat} {xs : List D} {i : Nat} {d : D}, (enumD n xs)[i]? = some d → ∃ x, xs[i]? = some x ∧ d = .tup [.int ((n + i : Nat) : Int), x]
  | n, x :: xs, 0, d, h => by
    simp only [enumD, List.getElem?_cons_zero, Option.some.injEq] at h
    exact ⟨x, rfl, h.symm⟩
  | n, x :: xs, i + 1, d, h => by
    simp only [enumD, List.getElem?_cons_succ] at h
    obtain ⟨a, h1, h2⟩ := enumD_get h
    refine ⟨a, by simpa using h1, ?_⟩
    rw [h2]
    have e : n + 1 + i = n + (i + 1) := by omega
    rw [e]
  | _, [], _, _, h => by simp [enumD] at h
theorem enumD_length : ∀ {n : Nat} {xs : List D}, (enumD n xs).length = xs.length
  | _, [] => rfl
  | n, x :: xs => by
    simp only [enumD, List.length_cons]
    rw [enumD_length]
theorem itok_zipL {st : Bool} {σ0 : Sl} {W0 : Ce} {d e : D} {p q : Addr} {xs ys : List D} (h1 : itOk st d = true) (h2 : itOk st e = true) (e1 : view σ0 W0 d = .lst xs) (e2 : view σ0 W0 e = .lst ys) (hl : xs.length = ys.length) : ItOk X.K st σ0 (Itz X.K p q) (zipD xs ys) [(e, .ref q), (d, .ref p)] := by
  intro F τ own C σd W σ H hK s hs k i
  have m1 := hs _ (List.mem_cons_of_mem _ List.mem_cons_self)
  have m2 := hs _ List.mem_cons_self
  have r1 := s.view m1
  have r2 := s.view m2
  rw [later (K := X.K) h1 s m1 k (.inl e1), e1] at r1
  rw [later (K := X.K) h2 s m2 k (.inl e2), e2] at r2
  obtain ⟨_, vs, z1, l1, r1⟩ := r1.lst
  obtain ⟨_, ws, z2, l2, r2⟩ := r2.lst
  cases z1; cases z2
  refine ⟨fun h => ⟨vs, ws, SqL.of l1, SqL.of l2, .inl (by rw [zipD_length hl] at h; rw [← r1.length]; exact h)⟩, fun d' hd => ?_⟩
  obtain ⟨x, y, hx, hy, rfl⟩ := zipD_get hd
  obtain ⟨v, hv, rx⟩ := r1.get hx
  obtain ⟨w, hw, ry⟩ := r2.get hy
  refine ⟨⟨vs, ws, v, w, SqL.of l1, SqL.of l2, hv, hw⟩, fun z H' yy => ?_⟩
  obtain ⟨T, x', y', rfl, hT, rfl, q1, q2⟩ := yy
  rw [q1 vs (SqL.of l1)] at hv
  rw [q2 ws (SqL.of l2)] at hw
  cases hv; cases hw
  exact s.newTup hT (.cons rx (.cons ry .nil))
theorem itok_zipT {st : Bool} {σ0 : Sl} {W0 : Ce} {d e : D} {p q : Addr} {xs ys : List D} (h1 : itOk st d = true) (h2 : itOk st e = true) (e1 : view σ0 W0 d = .tup xs) (e2 : view σ0 W0 e = .tup ys) (hl : xs.length = ys.length) : ItOk X.K st σ0 (RZ.ItzT X.K p q) (zipD xs ys) [(e, .ref q), (d, .ref p)] := by
  intro F τ own C σd W σ H hK s hs k i
  have m1 := hs _ (List.mem_cons_of_mem _ List.mem_cons_self)
  have m2 := hs _ List.mem_cons_self
  have r1 := s.view m1
  have r2 := s.view m2
  rw [later (K := X.K) h1 s m1 k (.inr e1), e1] at r1
  rw [later (K := X.K) h2 s m2 k (.inr e2), e2] at r2
  obtain ⟨_, vs, z1, l1, r1⟩ := r1.tup
  obtain ⟨_, ws, z2, l2, r2⟩ := r2.tup
  cases z1; cases z2
  rw [hK] at l1 l2
  refine ⟨fun h => ⟨vs, ws, l1, l2, .inl (by rw [zipD_length hl] at h; rw [← r1.length]; exact h)⟩, fun d' hd => ?_⟩
  obtain ⟨x, y, hx, hy, rfl⟩ := zipD_get hd
  obtain ⟨v, hv, rx⟩ := r1.get hx
  obtain ⟨w, hw, ry⟩ := r2.get hy
  refine ⟨⟨vs, ws, v, w, l1, l2, hv, hw⟩, fun z H' yy => ?_⟩
  obtain ⟨T, x', y', rfl, hT, rfl, q1, q2⟩ := yy
  rw [q1 vs l1] at hv
  rw [q2 ws l2] at hw
  cases hv; cases hw
  exact s.newTup hT (.cons rx (.cons ry .nil))
theorem itok_enum {st : Bool} {σ0 : Sl} {W0 : Ce} {d : D} {p : Addr} {ys : List D} (hi : itOk st d = true) (e : view σ0 W0 d = .lst ys) : ItOk X.K st σ0 (Ite X.K p) (enumD 0 ys) [(d, .ref p)] := by
  intro F τ own C σd W σ H hK s hs k i
  have hm := hs _ List.mem_cons_self
  have rv := s.view hm
  rw [later (K := X.K) hi s hm k (.inl e), e] at rv
  obtain ⟨q, vs, e1, h1, r⟩ := rv.lst
  cases e1
  refine ⟨fun hl => ⟨vs, SqL.of h1, by rw [enumD_length] at hl; rw [← r.length]; exact hl⟩, fun d' hd => ?_⟩
  obtain ⟨x, hx, rfl⟩ := enumD_get hd
  obtain ⟨v, hv, rr⟩ := r.get hx
  refine ⟨⟨vs, v, SqL.of h1, hv⟩, fun z H' y => ?_⟩
  obtain ⟨T, x', rfl, hT, rfl, q1⟩ := y
  rw [q1 vs (SqL.of h1)] at hv
  cases hv
  rw [Nat.zero_add]
  exact s.newTup hT (.cons (.int _) (.cons rr .nil))
theorem st_nb {st : Bool} {d : D} (h : itOk st d = true) : st = true → d.nb = true := by
  intro e
  subst e
  cases d <;> first | rfl | cases h

theorem snd_ival {st : Bool} (M : G.Mono) (ha : SndE G X a ea) : SndI G X st (.val a) tg ea := by
  intro F τ own C σd W σ H R hK s k
  simp only [wpI] at k
  have core : bE X ea σ H fun v H1 => ∃ p, v = .ref p ∧ ((∃ vs, SqL X.K H1 p vs ∧ R (Itl X.K p) H1) ∨ ∃ vs, SqT X.K H1 p vs ∧ R (Itt X.K p) H1) := by
    refine ha hK s (wpE_mono M a (fun d W1 k v H1 C1 s1 => ?_) k)
    obtain ⟨hi, k⟩ := k
    have rv := s1.view List.mem_cons_self
    have nbs : ∀ p, st = true → ∀ q ∈ [(d, V.ref p)], q.1.nb = true := fun p e q hq => by
      rcases List.mem_cons.mp hq with z | z
      · subst z; exact st_nb hi e
      · cases z
    split at k
    · rename_i xs e
      generalize hz : Bn.view σd W1 d = z at rv e
      cases z with
      | tup ys =>
        cases e
        obtain ⟨p, vs, rfl, h1, r⟩ := rv.tup
        exact ⟨p, rfl, .inr ⟨vs, by rw [← hK]; exact h1, k _ H1 C1 [(d, .ref p)] (nbs p) (itok_tup hi hz) s1⟩⟩
      | lst ys =>
        cases e
        obtain ⟨p, vs, rfl, h1, r⟩ := rv.lst
        exact ⟨p, rfl, .inl ⟨vs, SqL.of h1, k _ H1 C1 [(d, .ref p)] (nbs p) (itok_list hi hz) s1⟩⟩
      | scr ns =>
        cases e
        have hd : d = .scr ns := by
          unfold Bn.view at hz
          split at hz
          · split at hz <;> cases hz
          · split at hz <;> cases hz
          · exact hz
        subst hd
        obtain ⟨p, rfl, h1⟩ := RepU.scr rv
        rw [hK] at h1
        exact ⟨p, rfl, .inl ⟨_, h1.sq, k _ H1 C1 [(.scr ns, .ref p)] (nbs p) itok_scr s1⟩⟩
      | _ => cases e
    · exact k.elim
  intro pins s0 I
  refine thn (core pins s0 I) fun v s1 h => ?_
  obtain ⟨x, H1, I1, r, p, rfl, h⟩ := h
  cases r
  rcases h with ⟨vs, h1, q⟩ | ⟨vs, h1, q⟩
  · exact iterL I1 h1 q
  · exact iterT I1 h1 q
theorem snd_rng1 {st : Bool} {p : Pos} (M : G.Mono) (hg : Gl X "range") (hm : X.mg "range" = none) (ha : SndE G X a ea) (hn : noStar ea = true) : SndI G X st (.rng1 a) tg (.Call (.Name "range" p) [ea] [] pos) := by
  intro F τ own C σd W σ H R hK s k
  simp only [wpI] at k
  refine bI_of (pi_range1 hg hm (pa_cons bE_ok pa_nil (star_cons hn)) (by rw [star_cons hn]; rfl)) ?_
  refine ha hK s (wpE_mono M a (fun d W1 k v H1 C1 s1 => ?_) k)
  split at k
  · rename_i j
    cases s1.rep1 rfl
    exact ⟨j, rfl, k.1.1, k.1.2, k.2 _ H1 C1 [] (fun _ _ h => by cases h) itok_rng s1.pop⟩
  · exact k.elim
theorem snd_rng2 {st : Bool} {p : Pos} (M : G.Mono) (hg : Gl X "range") (hm : X.mg "range" = none) (ha : SndE G X a ea) (hb : SndE G X b eb) (hn : noStar ea = true) (hn2 : noStar eb = true) : SndI G X st (.rng2 a b) tg (.Call (.Name "range" p) [ea, eb] [] pos) := by
  intro F τ own C σd W σ H R hK s k
  simp only [wpI] at k
  refine bI_of (pi_range2 hg hm (pa_cons bE_ok (pa_cons bE_ok pa_nil (star_cons hn2)) (star_cons hn)) (by rw [star_cons hn, star_cons hn2]; rfl) (by rw [star_cons hn2]; rfl)) ?_
  refine ha hK s (wpE_mono M a (fun d W1 k v H1 C1 s1 => ?_) k)
  refine hb hK s1 (wpE_mono M b (fun d2 W2 k u H2 C2 s2 => ?_) k)
  cases d with
  | int i =>
    cases d2 with
    | int j =>
      cases s2.pop.rep1 rfl
      cases s2.rep1 rfl
      exact ⟨i, j, rfl, k.1, k.2 _ H2 C2 [] (fun _ _ h => by cases h) itok_rng s2.pop.pop⟩
    | _ => exact k.elim
  | _ => exact k.elim
theorem snd_zip {st : Bool} {p : Pos} {elts : List Expr} {kk : Nat} {tpos : Pos} (M : G.Mono) (hg : Gl X "zip") (hm : X.mg "zip" = none) (ha : SndE G X a ea) (hb : SndE G X b eb) (hn : noStar ea = true) (hn2 : noStar eb = true) :
    SndI G X st (.zip a b) (.Tuple elts kk tpos) (.Call (.Name "zip" p) [ea, eb] [] pos) := by
  intro F τ own C σd W σ H R hK s k
  simp only [wpI] at k
  refine bI_of (RZ.pi_zipA hg hm (pa_cons bE_ok (pa_cons bE_ok pa_nil (star_cons hn2)) (star_cons hn)) (star_cons hn) (star_none (by rw [List.all_cons, hn2]; rfl))) ?_
  refine ha hK s (wpE_mono M a (fun x W1 k v H1 C1 s1 => ?_) k)
  refine hb hK s1 (wpE_mono M b (fun y W2 k u H2 C2 s2 => ?_) k)
  obtain ⟨hi, k⟩ := k
  rw [Bool.and_eq_true] at hi
  have r1 := s2.view (List.mem_cons_of_mem _ List.mem_cons_self)
  have r2 := s2.view List.mem_cons_self
  have nbs : ∀ p q, st = true → ∀ z ∈ [(y, V.ref p), (x, V.ref q)], z.1.nb = true := fun p q e z hz => by
    rcases List.mem_cons.mp hz with hz | hz
    · subst hz; exact st_nb hi.2 e
    · rcases List.mem_cons.mp hz with hz | hz
      · subst hz; exact st_nb hi.1 e
      · cases hz
  split at k
  · rename_i xs ys e1 e2
    have f1 := r1
    have f2 := r2
    rw [e1] at f1
    rw [e2] at f2
    obtain ⟨p1, vs, rfl, l1, _⟩ := f1.lst
    obtain ⟨p2, ws, rfl, l2, _⟩ := f2.lst
    exact ⟨p1, p2, vs, ws, rfl, .inl ⟨SqL.of l1, SqL.of l2, k.2 _ H2 C2 [(y, .ref p2), (x, .ref p1)] (nbs _ _) (itok_zipL hi.1 hi.2 e1 e2 k.1) s2⟩⟩
  · rename_i xs ys e1 e2
    have f1 := r1
    have f2 := r2
    rw [e1] at f1
    rw [e2] at f2
    obtain ⟨p1, vs, rfl, l1, _⟩ := f1.tup
    obtain ⟨p2, ws, rfl, l2, _⟩ := f2.tup
    rw [hK] at l1 l2
    exact ⟨p1, p2, vs, ws, rfl, .inr ⟨l1, l2, k.2 _ H2 C2 [(y, .ref p2), (x, .ref p1)] (nbs _ _) (itok_zipT hi.1 hi.2 e1 e2 k.1) s2⟩⟩
  · exact k.elim
theorem snd_enum {st : Bool} {p : Pos} {elts : List Expr} {kk : Nat} {tpos : Pos} (M : G.Mono) (hg : Gl X "enumerate") (hm : X.mg "enumerate" = none) (ha : SndE G X a ea) (hn : noStar ea = true) : SndI G X st (.enum a) (.Tuple elts kk tpos) (.Call (.Name "enumerate" p) [ea] [] pos) := by
  intro F τ own C σd W σ H R hK s k
  simp only [wpI] at k
  refine bI_of (pi_enum hg hm (pa_cons bE_ok pa_nil (star_cons hn)) (by rw [star_cons hn]; rfl)) ?_
  refine ha hK s (wpE_mono M a (fun d W1 k v H1 C1 s1 => ?_) k)
  obtain ⟨hi, k⟩ := k
  have rv := s1.view List.mem_cons_self
  split at k
  · rename_i xs e
    rw [e] at rv
    obtain ⟨p1, vs, rfl, h1, _⟩ := rv.lst
    refine ⟨p1, vs, rfl, SqL.of h1, k _ H1 C1 [(d, .ref p1)] (fun e q hq => ?_) (itok_enum hi e) s1⟩
    rcases List.mem_cons.mp hq with z | z
    · subst z; exact st_nb hi e
    · cases z
  · exact k.elim

/-! ### plain targets -/
mutual
def tgOf (K : PySem.W.Frag) : Gt → TG
  | .name i => gName i
  | .tup gs => gTup K (tgN gs) (tgsOf K gs)
  | .ix _ _ => fun _ _ _ _ => False
def tgsOf (K : PySem.W.Frag) : Gts → TGs
  | .nil => gNil
  | .cons g gs => gCons (tgOf K g) (tgsOf K gs)
end
def locC (p : Pl) (i : Nat) (x : Str) : Bool := decide (p.N[i]? = some x) && (match p.sc.names.lookup x with
  | some .local => true
  | some .cell => p.fn x
  | _ => false)
mutual
def chkP (p : Pl) : Gt → Expr → Bool
  | .name i, ex => match ex with
    | .Name x _ => locC p i x
    | _ => false
  | .tup gs, ex => match ex with
    | .Tuple es _ _ => chkPs p gs es
    | _ => false
  | .ix _ _, _ => false
def chkPs (p : Pl) : Gts → List Expr → Bool
  | .nil, es => match es with
    | [] => true
    | _ => false
  | .cons g gs, es => match es with
    | e :: r => noStar e && chkP p g e && chkPs p gs r
    | [] => false
end
/-- where a target stands -/
structure AtP (X : Cx) (p : Pl) : Prop where
  N : X.N = p.N
  sc : X.env.scope = p.sc
  fns : ∀ x, p.fn x = true → X.fn x = true
  nd : X.N.Nodup
  calm : X.calm = true
theorem asg_cons {e : Expr} {es : List Expr} {env : PySem.Env} (h : noStar e = true) : assignEach (e :: es) env = (false, assign e env) :: assignEach es env := by
  cases e <;> first | rfl | cases h
theorem chkPs_star {p : Pl} : ∀ {gs : Gts} {es : List Expr}, chkPs p gs es = true → es.all noStar = true ∧ es.length = tgN gs
  | .nil, [], _ => ⟨rfl, rfl⟩
  | .nil, _ :: _, h => by simp [chkPs] at h
  | .cons _ _, [], h => by simp [chkPs] at h
  | .cons g gs, e :: es, h => by
    simp only [chkPs, Bool.and_eq_true] at h
    obtain ⟨h1, h2⟩ := chkPs_star h.2
    exact ⟨by rw [List.all_cons, h.1.1, h1]; rfl, by rw [List.length_cons, h2]; rfl⟩
theorem asg_none {env : PySem.Env} : ∀ {es : List Expr}, es.all noStar = true → (assignEach es env).length = es.length ∧ (assignEach es env).findIdx? (·.1) = none
  | [], _ => ⟨rfl, rfl⟩
  | e :: es, h => by
    simp only [List.all_cons, Bool.and_eq_true] at h
    obtain ⟨h1, h2⟩ := asg_none (env := env) h.2
    rw [asg_cons h.1]
    refine ⟨by rw [List.length_cons, h1]; rfl, ?_⟩
    rw [List.findIdx?_cons]
    show (if false = true then some 0 else _) = none
    rw [if_neg Bool.false_ne_true, h2]
    rfl
mutual
theorem pg_plain {p : Pl} (A : AtP X p) : ∀ {g : Gt} {ex : Expr}, chkP p g ex = true → PG X ex (tgOf X.K g)
  | .name i, ex, h => by
    simp only [chkP] at h
    split at h
    · rename_i x q
      unfold locC at h
      rw [Bool.and_eq_true, decide_eq_true_eq] at h
      obtain ⟨h1, h2⟩ := h
      rw [← A.N] at h1
      rw [← A.sc] at h2
      simp only [tgOf]
      split at h2
      · rename_i e
        exact pg_name A.nd h1 (.inl e) (.inr e)
      · rename_i e
        exact pg_name A.nd h1 (.inr e) (.inl (A.fns _ h2))
      · cases h2
    · cases h
  | .tup gs, ex, h => by
    simp only [chkP] at h
    split at h
    · rename_i es j q
      obtain ⟨h1, h2⟩ := chkPs_star h
      obtain ⟨h3, h4⟩ := asg_none (env := X.env) h1
      simp only [tgOf]
      exact pg_tup A.calm (pgs_plain A h) (h3.trans h2) h4
    · cases h
  | .ix _ _, ex, h => by simp [chkP] at h
theorem pgs_plain {p : Pl} (A : AtP X p) : ∀ {gs : Gts} {es : List Expr}, chkPs p gs es = true → PGs X es (tgsOf X.K gs)
  | .nil, es, h => by
    simp only [chkPs] at h
    split at h
    · exact pgs_nil
    · cases h
  | .cons g gs, es, h => by
    simp only [chkPs] at h
    split at h
    · simp only [Bool.and_eq_true] at h
      exact pgs_cons (pg_plain A h.1.2) (pgs_plain A h.2) (by rw [asg_cons h.1.1]; rfl)
    · cases h
end
end
section
variable {F : Frm} {τ : List (D × V)} {own : Own} {C : List Addr} {σd σd' : Sl} {W : Ce} {σ : L2.St} {H : Hp}
/-- a slot gets a shared value -/
theorem Sim.setSh (s : Sim F τ own C σd W σ H) {i : Nat} {d : D} {v : V} (r : Rep F.K (Av F.P own) C H d v) (hi : i < σd.length) : Sim F τ own C (σd.set i (.sh d)) W (σ.set i (some v)) H := by
  refine { s with len := by rw [List.length_set, List.length_set]; exact s.len, sh := fun j e h => ?_, ow := fun j e h => ?_ }
  · by_cases c : i = j
    · subst c
      rw [List.getElem?_set_self hi] at h
      cases h
      exact ⟨v, List.getElem?_set_self (by rw [s.len]; exact hi), r⟩
    · rw [List.getElem?_set_ne c] at h
      obtain ⟨v', h1, h2⟩ := s.sh j e h
      exact ⟨v', by rw [List.getElem?_set_ne c]; exact h1, h2⟩
  · by_cases c : i = j
    · subst c
      rw [List.getElem?_set_self hi] at h
      cases h
    · rw [List.getElem?_set_ne c] at h
      obtain ⟨a, ws, h1, h2, h3⟩ := s.ow j e h
      exact ⟨a, ws, h1, by rw [List.getElem?_set_ne c]; exact h2, h3⟩
mutual
theorem gset_ok : ∀ {g : Gt} {d : D} {v : V} {σd σd' : Sl} {σ : L2.St} {R : L2.St → Hp → Prop}, Sim F τ own C σd W σ H → Rep F.K (Av F.P own) C H d v → gset g d σd = some σd' →
    (∀ σ', Sim F τ own C σd' W σ' H → (∀ i, i ∉ gslots g → σ'[i]? = σ[i]? ∧ σd'[i]? = σd[i]?) → R σ' H) → tgOf F.K g v σ H R
  | .name i, d, v, σd, σd', σ, R, s, r, e, k => by
    simp only [gset] at e
    split at e
    · rename_i h
      cases e
      simp only [tgOf]
      refine k _ (s.setSh r h.2) fun j hj => ?_
      have n : i ≠ j := fun z => hj (by subst z; simp [gslots])
      exact ⟨List.getElem?_set_ne n, List.getElem?_set_ne n⟩
    · cases e
  | .tup gs, d, v, σd, σd', σ, R, s, r, e, k => by
    simp only [gset] at e
    split at e
    · rename_i xs
      cases r with
      | tup h1 r1 =>
        simp only [tgOf]
        refine ⟨_, _, rfl, h1, ?_, gsets_ok s r1 e fun σ' s' hh => k σ' s' fun i hi => hh i (by simpa [gslots] using hi)⟩
        rw [← r1.length]
        exact gsets_len e
    · cases e
  | .ix _ _, _, _, _, _, _, _, _, _, e, _ => by simp [gset] at e
theorem gsets_ok : ∀ {gs : Gts} {ds : List D} {vs : List V} {σd σd' : Sl} {σ : L2.St} {R : L2.St → Hp → Prop}, Sim F τ own C σd W σ H → Reps F.K (Av F.P own) C H ds vs → gsets gs ds σd = some σd' →
    (∀ σ', Sim F τ own C σd' W σ' H → (∀ i, i ∉ gsslots gs → σ'[i]? = σ[i]? ∧ σd'[i]? = σd[i]?) → R σ' H) → tgsOf F.K gs vs σ H R
  | .nil, ds, vs, σd, σd', σ, R, s, r, e, k => by
    simp only [gsets] at e
    split at e
    · cases e
      cases r
      simp only [tgsOf]
      exact ⟨rfl, k σ s fun _ _ => ⟨rfl, rfl⟩⟩
    · cases e
  | .cons g gs, ds, vs, σd, σd', σ, R, s, r, e, k => by
    simp only [gsets] at e
    split at e
    · split at e
      · rename_i σ1 e1
        cases r with
        | cons r1 rr =>
          simp only [tgsOf]
          refine ⟨_, _, rfl, gset_ok s r1 e1 fun σ' s' hh => gsets_ok s' rr e fun σ2 s2 hh2 => k σ2 s2 fun i hi => ?_⟩
          simp only [gsslots, List.mem_append, not_or] at hi
          obtain ⟨a1, a2⟩ := hh i hi.1
          obtain ⟨b1, b2⟩ := hh2 i hi.2
          exact ⟨b1.trans a1, b2.trans a2⟩
      · cases e
    · cases e
theorem gsets_len : ∀ {gs : Gts} {ds : List D} {σd σd' : Sl}, gsets gs ds σd = some σd' → ds.length = tgN gs
  | .nil, ds, σd, σd', e => by
    simp only [gsets] at e
    split at e
    · rfl
    · cases e
  | .cons g gs, ds, σd, σd', e => by
    simp only [gsets] at e
    split at e
    · split at e
      · rw [List.length_cons, gsets_len e]
        rfl
      · cases e
    · cases e
end
end
end Bn

set_option Elab.async false
set_option linter.all false
set_option maxRecDepth 100000
/-! Bn, part 11: comprehensions. -/
namespace Bn
open PySem PySem.Spec PyProof.Rows L2

/-- a new list, of which nobody else knows -/
def SndF (G : Env) (X : Cx) (m : E) (ex : Expr) : Prop := ∀ {F : Frm} {τ : List (D × V)} {own : Own} {C : List Addr} {σd : Sl} {W : Ce} {σ : L2.St} {H : Hp} {R : VK}, F.K = X.K → Sim F τ own C σd W σ H →
  wpE G m σd W (fun d W' => ∃ ds, d = .lst ds ∧ ∀ p vs H' C' j, own j = none → σd.length ≤ j → Sim F τ (setOwn own j p) C' σd W' σ H' → H' p = some (.lst vs) → Reps F.K (Av F.P (setOwn own j p)) C' H' ds vs → R (.ref p) H') → bE X ex σ H R
section
variable {F : Frm} {τ : List (D × V)} {own : Own} {C : List Addr} {σd : Sl} {W : Ce} {σ : L2.St} {H : Hp}
theorem Sim.someJ (s : Sim F τ own C σd W σ H) : ∃ j, own j = none ∧ σd.length ≤ j := by
  obtain ⟨B, h⟩ := s.fin
  exact ⟨max B σd.length, h _ (Nat.le_max_left ..), Nat.le_max_right ..⟩
end
section
variable {G : Env} {X : Cx} {pos : Pos} {a b c : E} {ea eb ec : Expr} {as : Es} {eas : List Expr}
theorem snd_lstF (M : G.Mono) (hs : SndA G X as eas) : SndF G X (.lst as) (.List eas pos) := by
  intro F τ own C σd W σ H R hK s k
  simp only [wpE] at k
  refine bE_of (pe_lst bA_ok) (hs hK s (wpEs_mono M as (fun ds W1 k vs H1 C1 hl s1 => ?_) k))
  refine ⟨by rw [← hl]; exact k.1.2, fun p hp => ?_⟩
  obtain ⟨j, hj, hlj⟩ := s1.someJ
  obtain ⟨z1, z2⟩ := s1.newOwn hp hj hlj (s1.reps hl k.1.1)
  obtain ⟨ds', e, k2⟩ := k.2
  cases e
  exact k2 p vs _ C1 j hj hlj z1.pop.drop upd_same z2
/-- [x] * n, as a new list -/
theorem snd_repF (M : G.Mono) (ha : SndE G X a ea) (hb : SndE G X b eb) : SndF G X (.bin .mul a b) (.BinOp ea .Mult eb pos) := by
  intro F τ own C σd W σ H R hK s k
  simp only [wpE] at k
  refine bE_of (pe_op rB_ok bE_ok bE_ok) (ha hK s (wpE_mono M a (fun x W1 k v H1 C1 s1 => ?_) k))
  refine hb hK s1 (wpE_mono M b (fun y W2 k u H2 C2 s2 => ?_) k)
  have rx := s2.view (List.mem_cons_of_mem _ List.mem_cons_self)
  have ry := s2.view List.mem_cons_self
  generalize Bn.view σd W2 x = z1 at rx k
  generalize Bn.view σd W2 y = z2 at ry k
  cases z1 with
  | lst xs =>
    cases z2 with
    | int i =>
      have k : (-(2 ^ 63) ≤ i ∧ i < 2 ^ 63 ∧ xs.length * i.toNat ≤ sizeLine) ∧ _ := k
      obtain ⟨q, vs, rfl, h1, r1⟩ := rx.lst
      cases ry.int
      refine rB_of op_rep ⟨q, _, vs, rfl, rfl, h1, k.1.1, k.1.2.1, by rw [← r1.length]; exact k.1.2.2, fun p hp => ?_⟩
      obtain ⟨j, hj, hlj⟩ := s2.someJ
      obtain ⟨w1, w2⟩ := s2.newOwn hp hj hlj (r1.rep _)
      obtain ⟨ds', e, k2⟩ := k.2
      cases e
      exact k2 p _ _ C2 j hj hlj w1.pop.pop.pop upd_same w2
    | _ => exact k.elim
  | int i =>
    cases z2 with
    | int j =>
      obtain ⟨_, ds, e, _⟩ := k
      cases e
    | _ => exact k.elim
  | tup xs =>
    cases z2 with
    | int j =>
      obtain ⟨_, ds, e, _⟩ := k
      cases e
    | _ => exact k.elim
  | _ => exact k.elim
/-- list(x), as a new list -/
theorem snd_listF {n : Nat} {p0 : Pos} (M : G.Mono) (hg : Gl X "list") (hm : X.mg "list" = none) (ha : SndE G X a ea) (hn : noStar ea = true) : SndF G X (.bi .list1 (.cons a .nil)) (.Call (.Name "list" p0) [ea] [] pos) := by
  intro F τ own C σd W σ H R hK s k
  simp only [wpE, wpEs] at k
  refine bE_of (pe_callTy (T := "list") (r := rC X (.type "list")) rC_ok hg hm (by decide +kernel) (pa_cons bE_ok pa_nil (star_cons hn)) (by decide) (by decide) (star_cons hn) (star_none (by rfl))) ?_
  refine ha hK s (wpE_mono M a (fun x W1 k v H1 C1 s1 => ?_) k)
  have rx := s1.view List.mem_cons_self
  simp only [List.map_cons, List.map_nil] at k
  generalize Bn.view σd W1 x = z at rx k
  obtain ⟨j, hj, hlj⟩ := s1.someJ
  cases z with
  | tup ys =>
    obtain ⟨q, vs, rfl, h1, r1⟩ := rx.tup
    obtain ⟨ds', e, k2⟩ := k
    cases e
    refine rC_of call_list_of ⟨q, vs, rfl, .inr (by rw [← hK]; exact h1), fun p hp => ?_⟩
    obtain ⟨z1, z2⟩ := s1.newOwn hp hj hlj r1
    exact k2 p _ _ C1 j hj hlj z1.pop.pop upd_same z2
  | lst ys =>
    obtain ⟨q, vs, rfl, h1, r1⟩ := rx.lst
    obtain ⟨ds', e, k2⟩ := k
    cases e
    refine rC_of call_list_of ⟨q, vs, rfl, .inl (SqL.of h1), fun p hp => ?_⟩
    obtain ⟨z1, z2⟩ := s1.newOwn hp hj hlj r1
    exact k2 p _ _ C1 j hj hlj z1.pop.pop upd_same z2
  | _ => exact k.elim

mutual
theorem gset_nb : ∀ {g : Gt} {d : D} {σ σ' : Sl}, gset g d σ = some σ' → d.nb = true
  | .name i, d, σ, σ', e => by
    simp only [gset] at e
    split at e
    · rename_i h; exact h.1
    · cases e
  | .tup gs, d, σ, σ', e => by
    simp only [gset] at e
    split at e
    · rfl
    · cases e
  | .ix _ _, d, σ, σ', e => by simp [gset] at e
theorem gset_length : ∀ {g : Gt} {d : D} {σ σ' : Sl}, gset g d σ = some σ' → σ'.length = σ.length
  | .name i, d, σ, σ', e => by
    simp only [gset] at e
    split at e
    · cases e
      exact List.length_set
    · cases e
  | .tup gs, d, σ, σ', e => by
    simp only [gset] at e
    split at e
    · exact gsets_length e
    · cases e
  | .ix _ _, d, σ, σ', e => by simp [gset] at e
theorem gsets_length : ∀ {gs : Gts} {ds : List D} {σ σ' : Sl}, gsets gs ds σ = some σ' → σ'.length = σ.length
  | .nil, ds, σ, σ', e => by
    simp only [gsets] at e
    split at e
    · cases e
      rfl
    · cases e
  | .cons g gs, ds, σ, σ', e => by
    simp only [gsets] at e
    split at e
    · split at e
      · rename_i e1
        exact (gsets_length e).trans (gset_length e1)
      · cases e
    · cases e
end
/-- a test of a comprehension -/
def SndB (G : Env) (X : Cx) (m : E) (t : TT) : Prop := ∀ {F : Frm} {τ : List (D × V)} {own : Own} {C : List Addr} {σd : Sl} {W : Ce} {σ : L2.St} {H : Hp} {R : Bool → Hp → Prop}, F.K = X.K → Sim F τ own C σd W σ H →
  wpT G m σd W (fun b W' => ∀ H' C', Sim F τ own C' σd W' σ H' → R b H') → t σ H R
def SndV (G : Env) (X : Cx) (m : E) (t : TE) : Prop := ∀ {F : Frm} {τ : List (D × V)} {own : Own} {C : List Addr} {σd : Sl} {W : Ce} {σ : L2.St} {H : Hp} {R : VK}, F.K = X.K → Sim F τ own C σd W σ H →
  wpE G m σd W (fun d W' => ∀ v H' C', Sim F ((d, v) :: τ) own C' σd W' σ H' → R v H') → t σ H R
theorem lc_read {it : I} {g : Gt} {cond elt : E} {vs : List Nat} {tg iter : Expr} {tt : TT} {te : TE} (M : G.Mono) (hI : SndI G X false it tg iter) (hsub : ∀ i ∈ gslots g, i ∈ vs) (hT : SndB G X cond tt) (hE : SndV G X elt te)
    {F : Frm} {τ : List (D × V)} {own : Own} {C : List Addr} {σd : Sl} {W : Ce} {σ : L2.St} {H : Hp} {R : VK} (hK : F.K = X.K) (s : Sim F τ own C σd W σ H)
    (k : wpE G (.lc it g cond elt vs) σd W fun d W' => ∃ ds, d = .lst ds ∧ ∀ p vs H' C' j, own j = none → σd.length ≤ j → Sim F τ (setOwn own j p) C' σd W' σ H' → H' p = some (.lst vs) → Reps F.K (Av F.P (setOwn own j p)) C' H' ds vs → R (.ref p) H') :
    tLc (bI X tg iter) (tgOf X.K g) tt te vs σ H R := by
  simp only [wpE] at k
  obtain ⟨hno, k⟩ := k
  refine hI hK s (wpI_mono M it (fun xs W1 k J H1 C1 src hsrc ok s1 => ?_) k)
  obtain ⟨hz, k⟩ := k
  intro Dp hD
  obtain ⟨j, hj, hlj⟩ := s1.someJ
  -- the new list
  have sS := s1.slots
  obtain ⟨s2, r2⟩ := sS.newOwn (ds := []) (vs := []) hD hj hlj .nil
  have s3 := s2.block vs
  have hlw : (wipeD σd vs).length = σd.length := wipeD_length _ _
  -- what stays
  generalize hτ : slotsT σd σ ++ (src ++ τ) = τ0 at s2 s3 sS
  have nop : ∀ q ∈ τ0, ∀ ws, q.1 ≠ .pin j ws := fun q hq => (sS.tmp q hq).noPin hj
  have inS : ∀ q ∈ slotsT σd σ, q ∈ τ0 := fun q hq => by rw [← hτ]; exact List.mem_append_left _ hq
  have inSrc : ∀ q ∈ src, q ∈ τ0 := fun q hq => by rw [← hτ]; exact List.mem_append_right _ (List.mem_append_left _ hq)
  have inT : ∀ q ∈ τ, q ∈ τ0 := fun q hq => by rw [← hτ]; exact List.mem_append_right _ (List.mem_append_right _ hq)
  have hst : ∀ {σd' : Sl}, (∀ i, i ∉ vs → σd'[i]? = σd[i]?) → false = true ∨ ∀ (i : Nat) (ys : List D), σd[i]? = some (.ow ys) → σd'[i]? = some (.ow ys) := fun h => .inr fun i ys e => by
    rw [h i (noOw_ok hno e)]; exact e
  have ntm : ∀ {ds : List D} {ws : List V}, nbs ds = true → ∀ q ∈ tmps ds ws τ0, ∀ us, q.1 ≠ .pin j us := fun {ds ws} hn q hq us e => by
    rcases List.mem_append.mp hq with h | h
    · have := List.all_eq_true.mp hn q.1 (List.of_mem_zip (a := q.1) (b := q.2) h).1
      rw [e] at this
      cases this
    · exact nop q h us e
  refine ⟨fun i m H' => m = xs.length - i ∧ i ≤ xs.length ∧ ∃ accd acc C' W', acc.length ≤ i ∧ accd.length = acc.length ∧ nbs accd = true ∧ Sim F ((.pin j acc, .ref Dp) :: tmps accd acc τ0) (setOwn own j Dp) C' (wipeD σd vs) W' (wipe σ vs) H' ∧
    lcL (fun x W2 R => match gset g x (wipeD σd vs) with
        | some σ3 => wpE G cond σ3 W2 fun c W4 => (match truth (view σ3 W4 c) with
          | some true => wpE G elt σ3 W4 fun d W5 => d.nb = true ∧ R (some d) W5
          | some false => R none W4
          | none => False)
        | none => False) (xs.drop i) W' (fun ys W2 => ∃ ds, D.lst (accd ++ ys) = .lst ds ∧ ∀ p vs H' C' j, own j = none → σd.length ≤ j → Sim F τ (setOwn own j p) C' σd W2 σ H' → H' p = some (.lst vs) → Reps F.K (Av F.P (setOwn own j p)) C' H' ds vs → R (.ref p) H'),
    ⟨_, rfl, Nat.zero_le _, [], [], C1, W1, Nat.le_refl _, rfl, rfl, s3, by rw [List.drop_zero]; exact k⟩, ?_⟩
  rintro i m H2 ⟨rfl, hi, accd, acc, C2, W2, hacc, hlen, hnb, s4, k4⟩
  have it2 := ok (F := F) hK s4 (fun q hq => List.mem_cons_of_mem _ (List.mem_append_right _ (inSrc q hq))) (hst fun i hi => wipeD_out hi) i
  by_cases hlt : i < xs.length
  · -- one more item
    have hget : xs[i]? = some xs[i] := by simp [hlt]
    obtain ⟨go, yl⟩ := it2.2 _ hget
    refine .inr ⟨go, _, fun H' w => ⟨xs.length - (i + 1), by omega, w⟩, fun x H3 y => ?_⟩
    have s5 := yl x H3 y
    have hdr : xs.drop i = xs[i] :: xs.drop (i + 1) := List.drop_eq_getElem_cons hlt
    rw [hdr] at k4
    simp only [lcL] at k4
    split at k4
    · rename_i σ3 eg
      rw [← hK]
      refine gset_ok s5.pop (s5.rep1 (gset_nb eg)) eg fun σ2 s6 hh => ?_
      have l3 : σ3.length = σd.length := (gset_length eg).trans hlw
      have w1 : wipe σ2 vs = wipe σ vs := wipe_ext (by rw [s6.len, l3, s.len]) fun q hq => by
        rw [(hh q fun z => hq (hsub q z)).1, wipe_out hq]
      have w2 : wipeD σ3 vs = wipeD σd vs := wipeD_ext l3 fun q hq => by
        rw [(hh q fun z => hq (hsub q z)).2, wipeD_out hq]
      refine ⟨w1, hT hK s6 (wpT_of M k4 fun c W4 kc => ?_)⟩
      cases ec : truth (Bn.view σ3 W4 c) with
      | none =>
        rw [ec] at kc
        exact kc.elim
      | some bb =>
        rw [ec] at kc
        refine ⟨bb, rfl, fun H5 C5 s7 => ?_⟩
        cases bb with
        | false =>
          rw [if_neg Bool.false_ne_true]
          have s8 := s7.block vs
          rw [w1, w2] at s8
          exact ⟨rfl, hlt, accd, acc, C5, W4, Nat.le_succ_of_le hacc, hlen, hnb, s8, kc⟩
        | true =>
          rw [if_pos rfl]
          refine hE hK s7 (wpE_mono M elt (fun d W5 kd v H6 C6 s8 => ?_) kc)
          have hD6 : H6 Dp = some (.lst acc) := by
            rcases s8.tmp _ (List.mem_cons_of_mem _ List.mem_cons_self) with r | ⟨i, a, e1, _⟩ | ⟨i, a, ws, e1, e2, e3, e4⟩
            · cases r
            · cases e1
            · cases e1
              cases e3
              exact e4
          have rd := s8.rep1 kd.1
          have ra := Sim.reps (s8.sub (τ' := tmps accd acc τ0) fun q hq => List.mem_cons_of_mem _ (List.mem_cons_of_mem _ hq)) hlen hnb
          have hnb2 : nbs (accd ++ [d]) = true := by
            simp only [nbs, List.all_append, List.all_cons, List.all_nil, Bool.and_true, Bool.and_eq_true]
            exact ⟨hnb, kd.1⟩
          have s9 : Sim F (tmps (accd ++ [d]) (acc ++ [v]) τ0) (setOwn own j Dp) C6 σ3 W5 σ2 H6 := s8.sub fun q hq => by
            unfold tmps at hq
            rw [List.zip_append hlen] at hq
            rcases List.mem_append.mp hq with z | z
            · rcases List.mem_append.mp z with z | z
              · exact List.mem_cons_of_mem _ (List.mem_cons_of_mem _ (List.mem_append_left _ z))
              · have z' : q = (d, v) := by simpa using z
                subst z'
                exact List.mem_cons_self
            · exact List.mem_cons_of_mem _ (List.mem_cons_of_mem _ (List.mem_append_right _ z))
          have s10 := s9.block vs
          rw [w1, w2] at s10
          obtain ⟨s11, _⟩ := s10.vset (j := j) setOwn_same (by rw [hlw]; exact hlj) (ntm hnb2) (ra.append (.cons rd .nil))
          refine ⟨acc, hD6, by omega, rfl, hlt, accd ++ [d], acc ++ [v], C6, W5, by rw [List.length_append]; exact Nat.succ_le_succ hacc, by rw [List.length_append, List.length_append, hlen]; rfl, hnb2, s11, ?_⟩
          have e : ∀ ys : List D, accd ++ [d] ++ ys = accd ++ d :: ys := fun ys => by rw [List.append_assoc]; rfl
          simp only [e]
          exact kd.2
    · exact k4.elim
  · -- the end
    have e : i = xs.length := by omega
    subst e
    refine .inl ⟨it2.1 (Nat.le_refl _), ?_⟩
    rw [List.drop_length] at k4
    simp only [lcL, List.append_nil] at k4
    obtain ⟨ds, e, k4⟩ := k4
    cases e
    have s6 : Sim F ((.pin j acc, .ref Dp) :: tmps accd acc τ0) (setOwn own j Dp) C2 σd W2 σ H2 := by
      have s2' := s2
      exact Sim.unblock (σd := σd) (σ := σ) s2 s4 (fun q hq => List.mem_cons_of_mem _ (List.mem_append_right _ (inS q hq))) hno
    have hDp : H2 Dp = some (.lst acc) := by
      rcases s6.tmp _ List.mem_cons_self with r | ⟨i, a, e1, _⟩ | ⟨i, a, ws, e1, e2, e3, e4⟩
      · cases r
      · cases e1
      · cases e1
        cases e3
        exact e4
    exact k4 Dp acc H2 C2 j hj hlj (s6.sub fun q hq => List.mem_cons_of_mem _ (List.mem_append_right _ (inT q hq))) hDp (Sim.reps (s6.sub (τ' := tmps accd acc τ0) fun q hq => List.mem_cons_of_mem _ hq) hlen hnb)
end
end Bn

set_option Elab.async false
set_option linter.all false
set_option maxRecDepth 100000
/-! Bn, part 12: comprehensions and lists as values; the checker of expressions. -/
namespace Bn
open PySem PySem.Spec PyProof.Rows L2
section
variable {F : Frm} {τ : List (D × V)} {own : Own} {C C' : List Addr} {σd : Sl} {W W' : Ce} {σ : L2.St} {H H' : Hp} {j : Nat} {p : Addr}
theorem RepT.unset {K : PySem.W.Frag} {P : Addr → Prop} {own : Own} {C C' : List Addr} {H H' : Hp} {d : D} {v : V} (r0 : RepT K P own C H d v) (r : RepT K P (setOwn own j p) C' H' d v) (hj : own j = none) (hp : ∀ a, Av P own a → a ≠ p) : RepT K P own C' H' d v := by
  have g : Go K (Av P (setOwn own j p)) (Av P own) C' C' H' H' := ⟨Keep.refl _ _, fun a z => .inl (by
    rcases z with z | ⟨i, z⟩
    · exact .inl z
    · exact .inr ⟨i, by rw [setOwn_ne (fun e => by subst e; rw [hj] at z; cases z)]; exact z⟩), fun _ _ z => z, fun _ z => .inl z⟩
  rcases r with r | ⟨i, a, e1, e2, e3⟩ | ⟨i, a, vs, e1, e2, e3, e4⟩
  · exact .inl (r.go g)
  · by_cases e : i = j
    · subst e
      subst e1
      rcases r0 with r | ⟨i', a', f1, f2, _⟩ | ⟨_, _, _, f1, _⟩
      · cases r
      · cases f1
        rw [hj] at f2; cases f2
      · cases f1
    · rw [setOwn_ne e] at e2
      exact .inr (.inl ⟨i, a, e1, e2, e3⟩)
  · by_cases e : i = j
    · subst e
      subst e1
      exact absurd rfl (r0.noPin hj vs)
    · rw [setOwn_ne e] at e2
      exact .inr (.inr ⟨i, a, vs, e1, e2, e3, e4⟩)
theorem Sim.share (s0 : Sim F τ own C σd W σ H) (s : Sim F τ (setOwn own j p) C' σd W' σ H') {ds : List D} {vs : List V} (hj : own j = none) (hl : σd.length ≤ j) (hH : H' p = some (.lst vs)) (r : Reps F.K (Av F.P (setOwn own j p)) C' H' ds vs) :
    Sim F ((.lst ds, .ref p) :: τ) own C' σd W' σ H' := by
  have hp : ∀ a, Av F.P own a → a ≠ p := fun a z e => by
    subst e
    rcases z with z | ⟨i, z⟩
    · exact (s.olt j _ setOwn_same).2.2.2 z
    · have n : i ≠ j := fun e => by subst e; rw [hj] at z; cases z
      exact n (s.oin i j _ (by rw [setOwn_ne n]; exact z) setOwn_same)
  obtain ⟨s1, r1⟩ := s.disown (τ' := τ) hj hl hH r fun q hq => ⟨hq, (s0.tmp q hq).unset (s.tmp q hq) hj hp⟩
  exact s1.push (.inl r1)
end
section
variable {G : Env} {X : Cx} {pos : Pos} {a b c : E} {ea eb ec : Expr} {as : Es} {eas : List Expr}
/-- a block of a comprehension -/
abbrev Blk (X : Cx) (scope : Scope) (s : Shared) (H : Hp) (C : Addr) (cl : List (Str × Addr)) (fp : List Addr) : Cx := X.blk s H scope (compEnvC scope cl C X.env) fp
def bEB (X : Cx) (scope : Scope) (ex : Expr) : TE := fun σ H Q => ∀ s H0 C cl fp, bE (Blk X scope s H0 C cl fp) ex σ H Q
def bTB (X : Cx) (scope : Scope) (ex : Expr) : TT := fun σ H Q => ∀ s H0 C cl fp, bT (Blk X scope s H0 C cl fp) ex σ H Q
theorem pe_blk {scope : Scope} {ex : Expr} (s : Shared) (H0 : Hp) (C : Addr) (cl : List (Str × Addr)) (fp : List Addr) : PE (Blk X scope s H0 C cl fp) ex (bEB X scope ex) := ⟨fun pins s' σ H Q I h => h s H0 C cl fp pins s' I⟩
theorem pt_blk {scope : Scope} {ex : Expr} (s : Shared) (H0 : Hp) (C : Addr) (cl : List (Str × Addr)) (fp : List Addr) : PT (Blk X scope s H0 C cl fp) ex (bTB X scope ex) := ⟨fun pins s' σ H Q I h => h s H0 C cl fp pins s' I⟩
def ttOf (X : Cx) (scope : Scope) : List Expr → TT
  | [] => tYes
  | c :: _ => bTB X scope c
/-- the parts of a comprehension -/
structure LcOk (G : Env) (X : Cx) (it : I) (g : Gt) (cond elt : E) (vs : List Nat) (eelt tg iter : Expr) (ifs : List Expr) (scope : Scope) (own : List (Str × Nat)) : Prop where
  it : SndI G X false it tg iter
  sub : ∀ i ∈ gslots g, i ∈ vs
  hown : own.map (·.2) = vs
  ok : BlkOk X.N X.env.scope scope own
  tg : ∀ s H C cl fp, PG (Blk X scope s H C cl fp) tg (tgOf X.K g)
  cond : (ifs = [] ∧ cond = .con (.bl true)) ∨ ∃ c, ifs = [c] ∧ ∀ s H C cl fp, SndT G (Blk X scope s H C cl fp) cond c
  elt : ∀ s H C cl fp, SndE G (Blk X scope s H C cl fp) elt eelt
  calm : X.calm = true
  nd : X.N.Nodup
  folded : ∀ x, foldedSetIterable iter X.env x = pure x
variable {it : I} {g : Gt} {cond elt : E} {vs : List Nat} {eelt tg iter : Expr} {ifs : List Expr} {scope : Scope} {own' : List (Str × Nat)}
theorem LcOk.tests (h : LcOk G X it g cond elt vs eelt tg iter ifs scope own') (s : Shared) (H : Hp) (C : Addr) (cl : List (Str × Addr)) (fp : List Addr) : PTs (Blk X scope s H C cl fp) ifs (ttOf X scope ifs) := by
  rcases h.cond with ⟨e, _⟩ | ⟨c, e, _⟩
  · subst e; exact pts_nil
  · subst e; exact pts_one (pt_blk s H C cl fp)
theorem LcOk.sndB (h : LcOk G X it g cond elt vs eelt tg iter ifs scope own') : SndB G X cond (ttOf X scope ifs) := by
  intro F τ own C σd W σ H R hK s k
  rcases h.cond with ⟨e, e2⟩ | ⟨c, e, hc⟩
  · subst e e2
    simp only [wpT, wpE] at k
    exact k H C s
  · subst e
    exact fun s1 H0 C0 cl fp => hc s1 H0 C0 cl fp hK s k
theorem LcOk.sndV (h : LcOk G X it g cond elt vs eelt tg iter ifs scope own') : SndV G X elt (bEB X scope eelt) := by
  intro F τ own C σd W σ H R hK s k
  exact fun s1 H0 C0 cl fp => h.elt s1 H0 C0 cl fp hK s k
theorem lc_lst (M : G.Mono) {σ : Sl} {W : Ce} {Q : D → Ce → Prop} (k : wpE G (.lc it g cond elt vs) σ W Q) : wpE G (.lc it g cond elt vs) σ W fun d W' => (∃ ds, d = .lst ds) ∧ Q d W' := by
  simp only [wpE] at *
  refine ⟨k.1, wpI_mono M it (fun _ _ k => ⟨k.1, lcL_mono (fun x W R R' hR k => ?_) (fun _ _ k => ⟨⟨_, rfl⟩, k⟩) k.2⟩) k.2⟩
  split
  · rename_i e
    rw [e] at k
    refine wpE_mono M cond (fun _ _ k => ?_) k
    split at k
    · exact wpE_mono M elt (fun _ _ k => ⟨k.1, hR _ _ k.2⟩) k
    · exact hR _ _ k
    · exact k
  · rename_i e
    rw [e] at k
    exact k
theorem snd_lc (M : G.Mono) (h : LcOk G X it g cond elt vs eelt tg iter ifs scope own') : SndE G X (.lc it g cond elt vs) (.ListComp eelt [⟨tg, iter, ifs, 0⟩] scope pos) := by
  intro F τ own C σd W σ H R hK s k
  refine bE_of (pe_lc h.calm h.nd bI_ok h.ok h.tg h.tests (fun s H C cl fp => pe_blk s H C cl fp) h.folded) ?_
  rw [h.hown]
  refine lc_read M h.it h.sub h.sndB h.sndV hK s (wpE_mono M _ (fun d W1 k => ?_) (lc_lst M k))
  obtain ⟨⟨ds, rfl⟩, k⟩ := k
  exact ⟨ds, rfl, fun p vs H' C' j hj hl s1 hH r => k _ H' C' (s.share s1 hj hl hH r)⟩
theorem snd_lcF (M : G.Mono) (h : LcOk G X it g cond elt vs eelt tg iter ifs scope own') : SndF G X (.lc it g cond elt vs) (.ListComp eelt [⟨tg, iter, ifs, 0⟩] scope pos) := by
  intro F τ own C σd W σ H R hK s k
  refine bE_of (pe_lc h.calm h.nd bI_ok h.ok h.tg h.tests (fun s H C cl fp => pe_blk s H C cl fp) h.folded) ?_
  rw [h.hown]
  exact lc_read M h.it h.sub h.sndB h.sndV hK s k

/-! ### the checker -/
def okNm (x : Str) : Bool := !(x == ("__debug__" : Str)) && !(x == ("__classdict__" : Str))
def visC (sc : Scope) (x : Str) : Bool := match sc.names.lookup x with
  | some .local => true
  | some .cell => true
  | some .free => true
  | _ => false
def varC (p : Pl) (i : Nat) (x : Str) : Bool := decide (p.N[i]? = some x) && visC p.sc x && okNm x
def glC (p : Pl) (x : Str) : Bool := decide (p.sc.names.lookup x = some .globalImplicit) && okNm x
def conC : D → Const → Bool
  | .int i, .int j => i == j
  | .bl i, .bool j => i == j
  | .non, .none => true
  | .str x, .str y => decide (x = y)
  | _, _ => false
def cmpT : E → Bool
  | .ite _ _ _ => false
  | _ => true
/-- the place within a comprehension's block -/
def Pl.blk (p : Pl) (scope : Scope) : Pl := ⟨p.N, relS scope p.sc, fun x => decide (scope.names.lookup x = some .cell)⟩
def ownOf (p : Pl) (vs : List Nat) : List (Str × Nat) := vs.map fun i => (p.N.getD i Str.empty, i)
def esToL : Es → List E
  | .nil => []
  | .cons e es => e :: esToL es
/-- keywords: their names, all there -/
def kwNames (kws : List Keyword) : List Str := kws.filterMap (·.arg)

def biC (Γ : Info) : Bi → Bool
  | .gcd => decide (("gcd" : Str) ∈ Γ.mth)
  | .isqrt => decide (("isqrt" : Str) ∈ Γ.mth)
  | _ => true
mutual
def chkE (Γ : Info) : E → Pl → Expr → Bool
  | .var i, p, ex => match ex with
    | .Name x _ => varC p i x
    | _ => false
  | .con d, _, ex => match ex with
    | .Constant c _ _ => conC d c
    | _ => false
  | .glob g, p, ex => match ex with
    | .Name x _ => glC p x && decide (Γ.consts[g]? = some x)
    | _ => false
  | .bin o a b, p, ex => match ex with
    | .BinOp l op r _ => decide (op = opOf o) && chkE Γ a p l && chkE Γ b p r
    | _ => false
  | .neg a, p, ex => match ex with
    | .UnaryOp .USub e _ => chkE Γ a p e
    | _ => false
  | .cmp o a b, p, ex => match ex with
    | .Compare l [op] [r] _ => decide (op = copOf o) && !behindInMarks op r && chkE Γ a p l && chkE Γ b p r
    | _ => false
  | .chain o o2 a b c, p, ex => match ex with
    | .Compare l [op, op2] [r, r2] _ => decide (op = copOf o) && decide (op2 = copOf o2) && !lastMarks [op, op2] [r, r2] && chkE Γ a p l && chkE Γ b p r && chkE Γ c p r2
    | _ => false
  | .isN a, p, ex => match ex with
    | .Compare l [.Is] [.Constant .none _ _] _ => chkE Γ a p l
    | _ => false
  | .isnN a, p, ex => match ex with
    | .Compare l [.IsNot] [.Constant .none _ _] _ => chkE Γ a p l
    | _ => false
  | .and a b, p, ex => match ex with
    | .BoolOp .And [x, y] _ => cmpT a && cmpT b && chkE Γ a p x && chkE Γ b p y
    | .BoolOp .And (x :: y :: r) q => cmpT a && chkE Γ a p x && chkE Γ b p (.BoolOp .And (y :: r) q)
    | _ => false
  | .or a b, p, ex => match ex with
    | .BoolOp .Or [x, y] _ => cmpT a && cmpT b && chkE Γ a p x && chkE Γ b p y
    | .BoolOp .Or (x :: y :: r) q => cmpT a && chkE Γ a p x && chkE Γ b p (.BoolOp .Or (y :: r) q)
    | _ => false
  | .not a, p, ex => match ex with
    | .UnaryOp .Not e _ => cmpT a && chkE Γ a p e
    | _ => false
  | .ite t a b, p, ex => match ex with
    | .IfExp et ea eb _ => cmpT t && chkE Γ t p et && chkE Γ a p ea && chkE Γ b p eb
    | _ => false
  | .tup as, p, ex => match ex with
    | .Tuple es _ _ => chkEs Γ as p es
    | _ => false
  | .lst as, p, ex => match ex with
    | .List es _ => chkEs Γ as p es
    | _ => false
  | .ix a b, p, ex => match ex with
    | .Subscript l r _ => notSl r && chkE Γ a p l && chkE Γ b p r
    | _ => false
  | .slFrom a b, p, ex => match ex with
    | .Subscript l (.Slice (some r) none none _) _ => chkE Γ a p l && chkE Γ b p r
    | _ => false
  | .slTo a b, p, ex => match ex with
    | .Subscript l (.Slice none (some r) none _) _ => chkE Γ a p l && chkE Γ b p r
    | _ => false
  | .call f as, p, ex => match ex with
    | .Call (.Name x _) (e :: es) [] _ => glC p x && decide ((Γ.fns[f]?).map (·.1) = some x) && chkEs Γ as p (e :: es)
    | _ => false
  | .callk f pl as, p, ex => match ex with
    | .Call (.Name x _) es kws _ => glC p x && decide ((Γ.fns[f]?).map (·.1) = some x) && decide ((f, es.length, kwNames kws, pl) ∈ Γ.kws) && kws.all (·.arg.isSome) && es.all noStar && chkEs Γ as p (es ++ kws.map (·.value))
    | _ => false
  | .bits a, p, ex => match ex with
    | .Call (.Attribute (.Name x q) m apos) [] [] pos => decide (m = "bit_length") && (apos.endLine == pos.line) && chkE Γ a p (.Name x q)
    | _ => false
  | .bi b as, p, ex => match ex with
    | .Call (.Name x _) (e :: es) [] _ => biC Γ b && decide (x = biName b) && glC p x && chkEs Γ as p (e :: es)
    | _ => false
  | .isi a T, p, ex => match ex with
    | .Call (.Name f _) [e, .Name t _] [] _ => decide (T < 5) && decide (f = "isinstance") && glC p f && decide (t = tyName T) && glC p t && noStar e && chkE Γ a p e
    | _ => false
  | .lc it g cond elt vs, p, ex => match ex with
    | .ListComp eelt [⟨tg, iter, ifs, isa⟩] scope _ => decide (isa = 0) && chkI Γ it p tg iter && (gslots g).all (fun i => decide (i ∈ vs)) && blkC p.N p.sc scope (ownOf p vs) && chkP (p.blk scope) g tg &&
        (match ifs with
          | [] => (match cond with
            | .con (.bl true) => true
            | _ => false)
          | [c] => cmpT cond && chkE Γ cond (p.blk scope) c
          | _ => false) && chkE Γ elt (p.blk scope) eelt
    | _ => false
def chkEs (Γ : Info) : Es → Pl → List Expr → Bool
  | .nil, _, es => match es with
    | [] => true
    | _ => false
  | .cons m ms, p, es => match es with
    | e :: r => noStar e && chkE Γ m p e && chkEs Γ ms p r
    | [] => false
def chkI (Γ : Info) : I → Pl → Expr → Expr → Bool
  | .val e, p, _, ex => (match ex with
    | .Set _ _ _ => false
    | _ => true) && chkE Γ e p ex
  | .rng1 a, p, _, ex => match ex with
    | .Call (.Name f _) [x] [] _ => decide (f = "range") && glC p f && noStar x && chkE Γ a p x
    | _ => false
  | .rng2 a b, p, _, ex => match ex with
    | .Call (.Name f _) [x, y] [] _ => decide (f = "range") && glC p f && noStar x && noStar y && chkE Γ a p x && chkE Γ b p y
    | _ => false
  | .zip a b, p, tg, ex => match tg, ex with
    | .Tuple _ _ _, .Call (.Name f _) [x, y] [] _ => decide (f = "zip") && glC p f && noStar x && noStar y && chkE Γ a p x && chkE Γ b p y
    | _, _ => false
  | .enum a, p, tg, ex => match tg, ex with
    | .Tuple _ _ _, .Call (.Name f _) [x] [] _ => decide (f = "enumerate") && glC p f && noStar x && chkE Γ a p x
    | _, _ => false
end
end
end Bn

set_option Elab.async false
set_option linter.all false
set_option maxRecDepth 100000
/-! Bn, part 13: expressions that the checker takes. -/
namespace Bn
open PySem PySem.Spec PyProof.Rows L2
section
variable {Γ : Info} {G : Env} {k : Nat} {X : Cx} {p : Pl}
theorem At.gl (A : At Γ G k X p) {x : Str} (h : glC p x = true) : Gl X x ∧ (x == ("__debug__" : Str)) = false := by
  unfold glC okNm at h
  simp only [Bool.and_eq_true, decide_eq_true_eq, Bool.not_eq_true'] at h
  refine ⟨?_, h.2.1⟩
  show X.env.scope.names.lookup x = _
  rw [A.sc]
  exact h.1
theorem At.blk (A : At Γ G k X p) (scope : Scope) (s : Shared) (H : Hp) (C : Addr) (cl : List (Str × Addr)) (fp : List Addr) : At Γ G k (Blk X scope s H C cl fp) (p.blk scope) where
  fn := A.fn
  const := A.const
  blt := A.blt
  gcd := A.gcd
  isq := A.isq
  room := A.room
  gds := A.gds
  mono := A.mono
  N := A.N
  sc := by
    show relS scope X.env.scope = relS scope p.sc
    rw [A.sc]
  fns := fun x h => by
    have h : decide (scope.names.lookup x = some .cell) = true := h
    rw [decide_eq_true_eq] at h
    show (scope.names.lookup x == some NameKind.cell) = true
    rw [h]
    rfl
  nd := A.nd
  calm := A.calm
  xe := rfl
theorem At.pl (A : At Γ G k X p) : AtP X p := ⟨A.N, A.sc, A.fns, A.nd, A.calm⟩
theorem At.bi (A : At Γ G k X p) {q : Bi} (hq : biC Γ q = true) (h : glC p (biName q) = true) {pos : Pos} {Q : Value → Shared → Prop} {E : Value → Shared → Prop} {pins : List (Addr × Obj)} {s : Shared} {σ : L2.St} {H : Hp} (I : Inv X pins σ H s) (k : Q (biVal q) s) :
    wpAny (model X.prog X.w) X.A (eval (.Name (biName q) pos) X.env) Q E s := by
  obtain ⟨hg, hd⟩ := A.gl h
  cases q with
  | gcd => exact ld_glob I hg (A.gcd (by simpa [biC] using hq)) k hd
  | isqrt => exact ld_glob I hg (A.isq (by simpa [biC] using hq)) k hd
  | _ => exact ld_blt I hg (A.blt _ (by decide +kernel)) (by decide +kernel) k (by decide) hd
theorem noStar_call {f : Expr} {es : List Expr} {ks : List Keyword} {q : Pos} : noStar (.Call f es ks q) = true := rfl
theorem chkEs_len {Γ : Info} : ∀ {as : Es} {p : Pl} {es : List Expr}, chkEs Γ as p es = true → esLen as = es.length ∧ es.all noStar = true
  | .nil, p, [], _ => ⟨rfl, rfl⟩
  | .nil, p, _ :: _, h => by simp [chkEs] at h
  | .cons m ms, p, [], h => by simp [chkEs] at h
  | .cons m ms, p, e :: es, h => by
    simp only [chkEs, Bool.and_eq_true] at h
    obtain ⟨h1, h2⟩ := chkEs_len h.2
    exact ⟨congrArg (· + 1) h1, by rw [List.all_cons, h.1.1, h2]; rfl⟩
/-- arguments cut in two -/
def esTake : Nat → Es → Es
  | 0, _ => .nil
  | _, .nil => .nil
  | n + 1, .cons e es => .cons e (esTake n es)
def esDrop : Nat → Es → Es
  | 0, es => es
  | _, .nil => .nil
  | n + 1, .cons _ es => esDrop n es
theorem es_cut : ∀ (n : Nat) (es : Es), esApp (esTake n es) (esDrop n es) = es
  | 0, _ => rfl
  | n + 1, .nil => rfl
  | n + 1, .cons e es => by
    show Es.cons e (esApp (esTake n es) (esDrop n es)) = _
    rw [es_cut n es]

/-- part by part -/
def SndL (G : Env) (X : Cx) : Es → List Expr → Prop
  | .nil, [] => True
  | .cons m ms, e :: es => (noStar e = true ∧ SndE G X m e) ∧ SndL G X ms es
  | _, _ => False
theorem SndL.a {G : Env} {X : Cx} (M : G.Mono) : ∀ {ms : Es} {es : List Expr}, SndL G X ms es → SndA G X ms es
  | .nil, [], _ => snd_nil
  | .cons m ms, e :: es, h => snd_cons M h.1.2 (SndL.a M h.2) h.1.1
  | .nil, _ :: _, h => h.elim
  | .cons _ _, [], h => h.elim
theorem SndL.kw {G : Env} {X : Cx} (M : G.Mono) : ∀ {ms : Es} {kws : List Keyword}, SndL G X ms (kws.map (·.value)) → SndK G X ms kws ∧ esLen ms = kws.length
  | .nil, [], _ => ⟨@snd_knil G X, rfl⟩
  | .cons m ms, ⟨nm, v, q⟩ :: kws, h => by
    obtain ⟨h1, h2⟩ := SndL.kw M (kws := kws) h.2
    exact ⟨snd_kcons M h.1.2 h1, congrArg (· + 1) h2⟩
  | .nil, _ :: _, h => h.elim
  | .cons _ _, [], h => h.elim
theorem SndL.cut {G : Env} {X : Cx} (M : G.Mono) : ∀ {ms : Es} {es : List Expr} {kws : List Keyword}, SndL G X ms (es ++ kws.map (·.value)) →
    SndA G X (esTake es.length ms) es ∧ SndK G X (esDrop es.length ms) kws ∧ esLen (esTake es.length ms) = es.length ∧ esLen (esDrop es.length ms) = kws.length
  | ms, [], kws, h => by
    have e1 : ∀ ms : Es, esTake 0 ms = .nil := fun ms => by cases ms <;> rfl
    have e2 : ∀ ms : Es, esDrop 0 ms = ms := fun ms => by cases ms <;> rfl
    obtain ⟨h1, h2⟩ := SndL.kw M h
    rw [List.length_nil, e1, e2]
    exact ⟨@snd_nil G X, h1, rfl, h2⟩
  | .nil, e :: es, kws, h => h.elim
  | .cons m ms, e :: es, kws, h => by
    obtain ⟨h1, h2, h3, h4⟩ := SndL.cut M (es := es) (kws := kws) h.2
    exact ⟨snd_cons M h.1.2 h1 h.1.1, h2, congrArg (· + 1) h3, h4⟩
structure Both (G : Env) (X : Cx) (m : E) (ex : Expr) : Prop where
  e : SndE G X m ex
  t : cmpT m = true → SndT G X m ex
  w : ∀ op vals q, ex = .BoolOp op vals q → SndW G X m ex
theorem Both.of {m : E} {ex : Expr} (M : G.Mono) (e : SndE G X m ex) (he : ∀ whole, isTrue ex X.env whole = (do let v ← whole; standAt ex.pos; holding [v] (truthy v))) (nb : ∀ op vals q, ex ≠ .BoolOp op vals q) : Both G X m ex :=
  ⟨e, fun _ => snd_test M e he, fun op vals q z => absurd z (nb op vals q)⟩
end

set_option maxHeartbeats 4000000
mutual
theorem snd_all {Γ : Info} {G : Env} {k : Nat} : ∀ (m : E) (X : Cx) (p : Pl) (ex : Expr), At Γ G k X p → chkE Γ m p ex = true → Both G X m ex
  | .var i, X, p, ex, A, h => by
    simp only [chkE] at h
    split at h
    · rename_i x q
      unfold varC visC okNm at h
      simp only [Bool.and_eq_true, decide_eq_true_eq, Bool.not_eq_true'] at h
      obtain ⟨⟨h1, h2⟩, h3, h4⟩ := h
      rw [← A.N] at h1
      rw [← A.sc] at h2
      have hv : Vis X.env.scope x := by
        split at h2
        · rename_i e; exact .inl e
        · rename_i e; exact .inr (.inl e)
        · rename_i e; exact .inr (.inr e)
        · cases h2
      exact .of A.mono (snd_var h1 hv h3 h4) (fun _ => rfl) (fun _ _ _ z => by cases z)
    · cases h
  | .con d, X, p, ex, A, h => by
    simp only [chkE] at h
    split at h
    · rename_i c j q
      refine .of A.mono ?_ (fun _ => rfl) (fun _ _ _ z => by cases z)
      unfold conC at h
      split at h
      · rename_i i j'
        have e : i = j' := by simpa using h
        subst e
        exact @snd_con_int _ _ _ _ _
      · rename_i i j'
        have e : i = j' := by simpa using h
        subst e
        exact @snd_con_bl _ _ _ _ _
      · exact @snd_con_non _ _ _ _
      · rename_i x y
        have e : x = y := by simpa using h
        subst e
        exact @snd_con_str _ _ _ _ _
      · cases h
    · cases h
  | .glob g, X, p, ex, A, h => by
    simp only [chkE] at h
    split at h
    · rename_i x q
      rw [Bool.and_eq_true, decide_eq_true_eq] at h
      obtain ⟨hg, hd⟩ := A.gl h.1
      refine .of A.mono ?_ (fun _ => rfl) (fun _ _ _ z => by cases z)
      cases e : G.consts[g]? with
      | none =>
        intro F τ own C σd W σ H R hK s k
        simp only [wpE, e] at k
      | some d =>
        obtain ⟨u, v, h1, h2, h3⟩ := A.const g x d h.2 e
        exact snd_glob hg h1 h2 hd h3 e
    · cases h
  | .bin o a b, X, p, ex, A, h => by
    simp only [chkE] at h
    split at h
    · simp only [Bool.and_eq_true, decide_eq_true_eq] at h
      obtain ⟨⟨h1, h2⟩, h3⟩ := h
      subst h1
      exact .of A.mono (snd_bin A.mono (snd_all a X p _ A h2).e (snd_all b X p _ A h3).e) (fun _ => rfl) (fun _ _ _ z => by cases z)
    · cases h
  | .neg a, X, p, ex, A, h => by
    simp only [chkE] at h
    split at h
    · exact .of A.mono (snd_neg A.mono (snd_all a X p _ A h).e) (fun _ => rfl) (fun _ _ _ z => by cases z)
    · cases h
  | .cmp o a b, X, p, ex, A, h => by
    simp only [chkE] at h
    split at h
    · simp only [Bool.and_eq_true, decide_eq_true_eq, Bool.not_eq_true'] at h
      obtain ⟨⟨⟨h1, h0⟩, h2⟩, h3⟩ := h
      subst h1
      exact ⟨snd_cmp A.room A.mono (snd_all a X p _ A h2).e (snd_all b X p _ A h3).e h0, fun _ => snd_cmpT A.room A.mono (snd_all a X p _ A h2).e (snd_all b X p _ A h3).e h0, fun _ _ _ z => by cases z⟩
    · cases h
  | .chain o o2 a b c, X, p, ex, A, h => by
    simp only [chkE] at h
    split at h
    · simp only [Bool.and_eq_true, decide_eq_true_eq, Bool.not_eq_true'] at h
      obtain ⟨⟨⟨⟨⟨h1, h2⟩, h0⟩, h3⟩, h4⟩, h5⟩ := h
      subst h1 h2
      exact ⟨snd_chain A.room A.mono (snd_all a X p _ A h3).e (snd_all b X p _ A h4).e (snd_all c X p _ A h5).e h0, fun _ => snd_chainT A.room A.mono (snd_all a X p _ A h3).e (snd_all b X p _ A h4).e (snd_all c X p _ A h5).e h0, fun _ _ _ z => by cases z⟩
    · cases h
  | .isN a, X, p, ex, A, h => by
    simp only [chkE] at h
    split at h
    · exact ⟨snd_isN A.mono (snd_all a X p _ A h).e, fun _ => snd_isNT A.mono (snd_all a X p _ A h).e, fun _ _ _ z => by cases z⟩
    · cases h
  | .isnN a, X, p, ex, A, h => by
    simp only [chkE] at h
    split at h
    · exact ⟨snd_isnN A.mono (snd_all a X p _ A h).e, fun _ => snd_isnNT A.mono (snd_all a X p _ A h).e, fun _ _ _ z => by cases z⟩
    · cases h
  | .and a b, X, p, ex, A, h => by
    simp only [chkE] at h
    split at h
    · simp only [Bool.and_eq_true] at h
      obtain ⟨⟨⟨h1, h2⟩, h3⟩, h4⟩ := h
      have ia := snd_all a X p _ A h3
      have ib := snd_all b X p _ A h4
      have w : SndW G X (.and a b) (.BoolOp .And [_, _] ‹Pos›) := snd_and1W A.mono (ia.t h1) (ib.t h2)
      exact ⟨snd_and1 A.mono ia.e ib.e, fun _ => w.t, fun _ _ _ _ => w⟩
    · simp only [Bool.and_eq_true] at h
      obtain ⟨⟨h1, h3⟩, h4⟩ := h
      have ia := snd_all a X p _ A h3
      have ib := snd_all b X p _ A h4
      have w : SndW G X (.and a b) (.BoolOp .And (_ :: _ :: _) ‹Pos›) := snd_andW A.mono (ia.t h1) (ib.w _ _ _ rfl)
      exact ⟨snd_and (pos' := ⟨0, 0, 0, 0⟩) A.mono ia.e ib.e, fun _ => w.t, fun _ _ _ _ => w⟩
    · cases h
  | .or a b, X, p, ex, A, h => by
    simp only [chkE] at h
    split at h
    · simp only [Bool.and_eq_true] at h
      obtain ⟨⟨⟨h1, h2⟩, h3⟩, h4⟩ := h
      have ia := snd_all a X p _ A h3
      have ib := snd_all b X p _ A h4
      have w : SndW G X (.or a b) (.BoolOp .Or [_, _] ‹Pos›) := snd_or1W A.mono (ia.t h1) (ib.t h2)
      exact ⟨snd_or1 A.mono ia.e ib.e, fun _ => w.t, fun _ _ _ _ => w⟩
    · simp only [Bool.and_eq_true] at h
      obtain ⟨⟨h1, h3⟩, h4⟩ := h
      have ia := snd_all a X p _ A h3
      have ib := snd_all b X p _ A h4
      have w : SndW G X (.or a b) (.BoolOp .Or (_ :: _ :: _) ‹Pos›) := snd_orW A.mono (ia.t h1) (ib.w _ _ _ rfl)
      exact ⟨snd_or (pos' := ⟨0, 0, 0, 0⟩) A.mono ia.e ib.e, fun _ => w.t, fun _ _ _ _ => w⟩
    · cases h
  | .not a, X, p, ex, A, h => by
    simp only [chkE] at h
    split at h
    · rw [Bool.and_eq_true] at h
      have ia := snd_all a X p _ A h.2
      exact ⟨snd_not A.mono ia.e, fun _ => snd_notT A.mono (ia.t h.1), fun _ _ _ z => by cases z⟩
    · cases h
  | .ite t a b, X, p, ex, A, h => by
    simp only [chkE] at h
    split at h
    · simp only [Bool.and_eq_true] at h
      obtain ⟨⟨⟨h1, h2⟩, h3⟩, h4⟩ := h
      exact ⟨snd_ite A.mono ((snd_all t X p _ A h2).t h1) (snd_all a X p _ A h3).e (snd_all b X p _ A h4).e, fun z => (by cases z), fun _ _ _ z => by cases z⟩
    · cases h
  | .tup as, X, p, ex, A, h => by
    simp only [chkE] at h
    split at h
    · exact .of A.mono (snd_tup A.mono ((snds_all as X p _ A h).a A.mono)) (fun _ => rfl) (fun _ _ _ z => by cases z)
    · cases h
  | .lst as, X, p, ex, A, h => by
    simp only [chkE] at h
    split at h
    · exact .of A.mono (snd_lst A.mono ((snds_all as X p _ A h).a A.mono)) (fun _ => rfl) (fun _ _ _ z => by cases z)
    · cases h
  | .ix a b, X, p, ex, A, h => by
    simp only [chkE] at h
    split at h
    · simp only [Bool.and_eq_true] at h
      exact .of A.mono (snd_ix A.mono (snd_all a X p _ A h.1.2).e (snd_all b X p _ A h.2).e h.1.1) (fun _ => rfl) (fun _ _ _ z => by cases z)
    · cases h
  | .slFrom a b, X, p, ex, A, h => by
    simp only [chkE] at h
    split at h
    · simp only [Bool.and_eq_true] at h
      exact .of A.mono (snd_slFrom A.mono (snd_all a X p _ A h.1).e (snd_all b X p _ A h.2).e) (fun _ => rfl) (fun _ _ _ z => by cases z)
    · cases h
  | .slTo a b, X, p, ex, A, h => by
    simp only [chkE] at h
    split at h
    · simp only [Bool.and_eq_true] at h
      exact .of A.mono (snd_slTo A.mono (snd_all a X p _ A h.1).e (snd_all b X p _ A h.2).e) (fun _ => rfl) (fun _ _ _ z => by cases z)
    · cases h
  | .call f as, X, p, ex, A, h => by
    simp only [chkE] at h
    split at h
    · simp only [Bool.and_eq_true, decide_eq_true_eq] at h
      obtain ⟨⟨h1, h2⟩, h3⟩ := h
      obtain ⟨hg, hd⟩ := A.gl h1
      rw [Option.map_eq_some_iff] at h2
      obtain ⟨⟨nm, ps⟩, e1, e2⟩ := h2
      cases e2
      obtain ⟨fa, fd, m1, m2, m3, m4, _⟩ := A.fn f nm ps e1
      exact .of A.mono (snd_call A.mono m4 A.room A.gds hg m1 m2 m3 hd ((snds_all as X p _ A h3).a A.mono) (chkEs_len h3).2) (fun _ => rfl) (fun _ _ _ z => by cases z)
    · cases h
  | .callk f pl as, X, p, ex, A, h => by
    simp only [chkE] at h
    split at h
    · rename_i x q es kws q2
      simp only [Bool.and_eq_true, decide_eq_true_eq] at h
      obtain ⟨⟨⟨⟨⟨h1, h2⟩, h3⟩, h4⟩, h5⟩, h6⟩ := h
      obtain ⟨hg, hd⟩ := A.gl h1
      rw [Option.map_eq_some_iff] at h2
      obtain ⟨⟨nm, ps⟩, e1, e2⟩ := h2
      cases e2
      obtain ⟨fa, fd, m1, m2, m3, m4, m5⟩ := A.fn f nm ps e1
      obtain ⟨c1, c2, c3⟩ := (snds_all as X p _ A h6).cut A.mono
      have hl := (chkEs_len h6).1
      refine .of A.mono ?_ (fun _ => rfl) (fun _ _ _ z => by cases z)
      have e := es_cut es.length as
      rw [← e]
      refine @snd_callk G X q2 (esTake es.length as) es f k nm q fa fd ps (kwNames kws) pl (esDrop es.length as) kws A.mono m4 A.room A.gds hg m1 m2 (by rw [c3.1]; exact m5 _ _ _ h3) hd c1 h5 c2 rfl h4 ?_ ?_
      · rw [c3.2]
        have : ∀ {kws : List Keyword}, kws.all (·.arg.isSome) = true → kws.length = (kwNames kws).length := by
          intro kws hk
          induction kws with
          | nil => rfl
          | cons kw kws ih =>
            simp only [List.all_cons, Bool.and_eq_true] at hk
            obtain ⟨nm, v, q⟩ := kw
            cases nm with
            | none => cases hk.1
            | some y =>
              show kws.length + 1 = (y :: kwNames kws).length
              rw [ih hk.2]
              rfl
        exact this h4
      · intro z
        subst z
        rfl
    · cases h
  | .bits a, X, p, ex, A, h => by
    simp only [chkE] at h
    split at h
    · simp only [Bool.and_eq_true, decide_eq_true_eq] at h
      obtain ⟨⟨h1, h2⟩, h3⟩ := h
      subst h1
      exact .of A.mono (snd_bits A.mono (snd_all a X p _ A h3).e h2) (fun _ => rfl) (fun _ _ _ z => by cases z)
    · cases h
  | .bi b as, X, p, ex, A, h => by
    simp only [chkE] at h
    split at h
    · simp only [Bool.and_eq_true, decide_eq_true_eq] at h
      obtain ⟨⟨⟨h0, h1⟩, h2⟩, h3⟩ := h
      subst h1
      exact .of A.mono (snd_bi A.mono (fun I k => A.bi h0 h2 I k) A.calm A.room A.gds ((snds_all as X p _ A h3).a A.mono) (chkEs_len h3).2) (fun _ => rfl) (fun _ _ _ z => by cases z)
    · cases h
  | .isi a T, X, p, ex, A, h => by
    simp only [chkE] at h
    split at h
    · simp only [Bool.and_eq_true, decide_eq_true_eq] at h
      obtain ⟨⟨⟨⟨⟨⟨h1, h2⟩, h3⟩, h4⟩, h5⟩, h6⟩, h7⟩ := h
      subst h2 h4
      obtain ⟨hg, hd⟩ := A.gl h3
      obtain ⟨hg2, hd2⟩ := A.gl h5
      have cs : T = 0 ∨ T = 1 ∨ T = 2 ∨ T = 3 ∨ T = 4 := by omega
      have m2 : X.mg (tyName T) = none := A.blt _ (by rcases cs with rfl | rfl | rfl | rfl | rfl <;> decide +kernel)
      have b2 : bootBuiltins (tyName T) = some (.type (tyName T)) := by rcases cs with rfl | rfl | rfl | rfl | rfl <;> decide +kernel
      have n2 : (tyName T : Str) ≠ "__name__" := by rcases cs with rfl | rfl | rfl | rfl | rfl <;> decide
      exact .of A.mono (snd_isi (n := k) A.mono h1 hg (A.blt _ (by decide +kernel)) hg2 m2 b2 hd2 n2 (snd_all a X p _ A h7).e h6) (fun _ => rfl) (fun _ _ _ z => by cases z)
    · cases h
  | .lc it g cond elt vs, X, p, ex, A, h => by
    simp only [chkE] at h
    split at h
    · rename_i eelt tg iter ifs isa scope q
      simp only [Bool.and_eq_true, decide_eq_true_eq] at h
      obtain ⟨⟨⟨⟨⟨⟨h1, h2⟩, h3⟩, h4⟩, h5⟩, h6⟩, h7⟩ := h
      subst h1
      refine .of A.mono (snd_lc (own' := ownOf p vs) A.mono ⟨?_, ?_, ?_, ?_, ?_, ?_, ?_, A.calm, A.nd, ?_⟩) (fun _ => rfl) (fun _ _ _ z => by cases z)
      · exact (sndi_all it X p tg iter A h2).1
      · intro i hi
        exact of_decide_eq_true (List.all_eq_true.mp h3 i hi)
      · unfold ownOf
        rw [List.map_map]
        exact (List.map_congr_left fun _ _ => rfl).trans (List.map_id vs)
      · rw [A.N, A.sc]
        exact blkOk_by h4
      · intro s H C cl fp
        exact pg_plain (A.blk scope s H C cl fp).pl h5
      · split at h6
        · split at h6
          · exact .inl ⟨rfl, rfl⟩
          · cases h6
        · rename_i c
          rw [Bool.and_eq_true] at h6
          exact .inr ⟨c, rfl, fun s H C cl fp => (snd_all cond _ _ _ (A.blk scope s H C cl fp) h6.2).t h6.1⟩
        · cases h6
      · intro s H C cl fp
        exact (snd_all elt _ _ _ (A.blk scope s H C cl fp) h7).e
      · exact (sndi_all (st := false) it X p tg iter A h2).2
    · cases h
theorem snds_all {Γ : Info} {G : Env} {k : Nat} : ∀ (ms : Es) (X : Cx) (p : Pl) (es : List Expr), At Γ G k X p → chkEs Γ ms p es = true → SndL G X ms es
  | .nil, X, p, es, A, h => by
    simp only [chkEs] at h
    split at h
    · exact True.intro
    · cases h
  | .cons m ms, X, p, es, A, h => by
    simp only [chkEs] at h
    split at h
    · simp only [Bool.and_eq_true] at h
      exact ⟨⟨h.1.1, (snd_all m X p _ A h.1.2).e⟩, snds_all ms X p _ A h.2⟩
    · cases h
theorem sndi_all {Γ : Info} {G : Env} {k : Nat} {st : Bool} : ∀ (m : I) (X : Cx) (p : Pl) (tg iter : Expr), At Γ G k X p → chkI Γ m p tg iter = true → SndI G X st m tg iter ∧ ∀ x, foldedSetIterable iter X.env x = pure x
  | .val e, X, p, tg, iter, A, h => by
    simp only [chkI, Bool.and_eq_true] at h
    refine ⟨snd_ival A.mono (snd_all e X p _ A h.2).e, fun x => ?_⟩
    have h1 := h.1
    split at h1
    · cases h1
    · rename_i hs
      cases iter <;> first | rfl | exact absurd rfl (hs _ _ _)
  | .rng1 a, X, p, tg, iter, A, h => by
    simp only [chkI] at h
    split at h
    · simp only [Bool.and_eq_true, decide_eq_true_eq] at h
      obtain ⟨⟨⟨h1, h2⟩, h3⟩, h4⟩ := h
      subst h1
      exact ⟨snd_rng1 A.mono (A.gl h2).1 (A.blt _ (by decide +kernel)) (snd_all a X p _ A h4).e h3, fun _ => rfl⟩
    · cases h
  | .rng2 a b, X, p, tg, iter, A, h => by
    simp only [chkI] at h
    split at h
    · simp only [Bool.and_eq_true, decide_eq_true_eq] at h
      obtain ⟨⟨⟨⟨⟨h1, h2⟩, h3⟩, h4⟩, h5⟩, h6⟩ := h
      subst h1
      exact ⟨snd_rng2 A.mono (A.gl h2).1 (A.blt _ (by decide +kernel)) (snd_all a X p _ A h5).e (snd_all b X p _ A h6).e h3 h4, fun _ => rfl⟩
    · cases h
  | .zip a b, X, p, tg, iter, A, h => by
    simp only [chkI] at h
    split at h
    · simp only [Bool.and_eq_true, decide_eq_true_eq] at h
      obtain ⟨⟨⟨⟨⟨h1, h2⟩, h3⟩, h4⟩, h5⟩, h6⟩ := h
      subst h1
      exact ⟨snd_zip A.mono (A.gl h2).1 (A.blt _ (by decide +kernel)) (snd_all a X p _ A h5).e (snd_all b X p _ A h6).e h3 h4, fun _ => rfl⟩
    · cases h
  | .enum a, X, p, tg, iter, A, h => by
    simp only [chkI] at h
    split at h
    · simp only [Bool.and_eq_true, decide_eq_true_eq] at h
      obtain ⟨⟨⟨h1, h2⟩, h3⟩, h4⟩ := h
      subst h1
      exact ⟨snd_enum A.mono (A.gl h2).1 (A.blt _ (by decide +kernel)) (snd_all a X p _ A h4).e h3, fun _ => rfl⟩
    · cases h
end
end Bn

set_option Elab.async false
set_option linter.all false
set_option maxRecDepth 100000
/-! Bn, part 14: statements. -/
namespace Bn
open PySem PySem.Spec PyProof.Rows L2
theorem nodup_at {α : Type} : ∀ {l : List α} {i j : Nat} {a : α}, l.Nodup → l[i]? = some a → l[j]? = some a → i = j
  | _ :: _, 0, 0, _, _, _, _ => rfl
  | x :: l, 0, j + 1, a, h, h1, h2 => by
    simp at h1 h2
    subst h1
    exact absurd (List.mem_of_getElem? h2) (List.nodup_cons.mp h).1
  | x :: l, i + 1, 0, a, h, h1, h2 => by
    simp at h1 h2
    subst h2
    exact absurd (List.mem_of_getElem? h1) (List.nodup_cons.mp h).1
  | x :: l, i + 1, j + 1, a, h, h1, h2 => by
    simp at h1 h2
    rw [nodup_at (List.nodup_cons.mp h).2 h1 h2]
  | [], _, _, _, _, h1, _ => by simp at h1
def Cl (τ : List (D × V)) : Prop := ∀ p ∈ τ, p.1.nb = true
section
variable {F : Frm} {τ τ' : List (D × V)} {own : Own} {C : List Addr} {σd : Sl} {W : Ce} {σ : L2.St} {H : Hp} {i j : Nat} {p : Addr}
theorem Sim.place (s : Sim F τ (setOwn own j p) C σd W σ H) (cl : Cl τ) {ds : List D} {vs : List V} (hj : own j = none) (hl : σd.length ≤ j) (hi : i < σd.length) (hH : H p = some (.lst vs)) (r : Reps F.K (Av F.P (setOwn own j p)) C H ds vs) :
    Sim F τ (setOwn own i p) C (σd.set i (.ow ds)) W (σ.set i (some (.ref p))) H := by
  have sub : ∀ {k : Nat} {a : Addr}, own k = some a → setOwn own j p k = some a := fun {k a} e => by
    rw [setOwn_ne fun z => by subst z; rw [hj] at e; cases e]; exact e
  have av : ∀ a, Av F.P (setOwn own i p) a → Av F.P (setOwn own j p) a ∨ H a = none := fun a z => .inl (by
    rcases z with z | ⟨k, z⟩
    · exact .inl z
    · by_cases e : k = i
      · subst e
        rw [setOwn_same] at z
        cases z
        exact .inr ⟨j, setOwn_same⟩
      · rw [setOwn_ne e] at z
        exact .inr ⟨k, sub z⟩)
  have g : Go F.K (Av F.P (setOwn own j p)) (Av F.P (setOwn own i p)) C C H H := ⟨Keep.refl _ _, av, fun _ _ z => z, fun _ z => .inl z⟩
  refine ⟨fun q hq => .inl (((s.tmp q hq).nb (cl q hq)).go g), by rw [List.length_set, List.length_set]; exact s.len, fun k d e => ?_, fun k es e => ?_, fun k k' a e1 e2 => ?_, fun k a e => ?_, ?_, s.cl, fun k a es e1 e2 => ?_, s.cn, s.cp, s.cx, s.cnew, s.kp, s.pl⟩
  · by_cases c : i = k
    · subst c
      rw [List.getElem?_set_self hi] at e; cases e
    · rw [List.getElem?_set_ne c] at e
      obtain ⟨v, e1, r⟩ := s.sh k d e
      exact ⟨v, by rw [List.getElem?_set_ne c]; exact e1, r.go g⟩
  · by_cases c : i = k
    · subst c
      rw [List.getElem?_set_self hi] at e
      cases e
      exact ⟨p, vs, setOwn_same, List.getElem?_set_self (by rw [s.len]; exact hi), hH, r.go g⟩
    · rw [List.getElem?_set_ne c] at e
      obtain ⟨a, ws, e1, e2, e3, r⟩ := s.ow k es e
      have hk : k < σd.length := (List.getElem?_eq_some_iff.mp e).1
      rw [setOwn_ne (by omega)] at e1
      exact ⟨a, ws, by rw [setOwn_ne (fun z => c z.symm)]; exact e1, by rw [List.getElem?_set_ne c]; exact e2, e3, r.go g⟩
  · by_cases h1 : k = i
    · by_cases h2 : k' = i
      · exact h1.trans h2.symm
      · subst h1
        rw [setOwn_same] at e1
        cases e1
        rw [setOwn_ne h2] at e2
        have := s.oin k' j _ (sub e2) setOwn_same
        subst this
        rw [hj] at e2; cases e2
    · by_cases h2 : k' = i
      · subst h2
        rw [setOwn_same] at e2
        cases e2
        rw [setOwn_ne h1] at e1
        have := s.oin k j _ (sub e1) setOwn_same
        subst this
        rw [hj] at e1; cases e1
      · rw [setOwn_ne h1] at e1
        rw [setOwn_ne h2] at e2
        exact s.oin k k' a (sub e1) (sub e2)
  · by_cases h1 : k = i
    · subst h1
      rw [setOwn_same] at e
      cases e
      exact s.olt j _ setOwn_same
    · rw [setOwn_ne h1] at e
      exact s.olt k a (sub e)
  · obtain ⟨B, hB⟩ := s.fin
    refine ⟨max B (max (i + 1) (j + 1)), fun k hk => ?_⟩
    have z := hB k (by omega)
    rw [setOwn_ne (by omega)] at z
    rw [setOwn_ne (by omega)]
    exact z
  · obtain ⟨ws, h1, r⟩ := s.ce k a es e1 e2
    exact ⟨ws, h1, r.go g⟩
theorem Sim.setOw (s : Sim F τ own C σd W σ H) (cl : Cl τ) {xs ds : List D} {vs : List V} {a : Addr} (hx : σd[i]? = some (.ow xs)) (ha : own i = some a) (r : Reps F.K (Av F.P own) C H ds vs) :
    Sim F τ own C (σd.set i (.ow ds)) W σ (upd H a (.lst vs)) := by
  obtain ⟨h0, ⟨us, h1⟩, h2, h3⟩ := s.olt i a ha
  have hi : i < σd.length := (List.getElem?_eq_some_iff.mp hx).1
  have g : Go F.K (Av F.P own) (Av F.P own) C C H (upd H a (.lst vs)) := ⟨Keep.upd h1 (.inl (.inr ⟨i, ha⟩)), fun _ z => .inl z, fun _ _ z => z, fun _ z => .inl z⟩
  have k : ∀ {b : Addr} {ws : List V}, H b = some (.lst ws) → b ≠ a → upd H a (.lst vs) b = some (.lst ws) := fun {b ws} e n => by
    rw [upd_ne n]; exact e
  obtain ⟨a', us', e1, e2, e3, _⟩ := s.ow i xs hx
  rw [ha] at e1
  cases e1
  refine ⟨fun q hq => .inl (((s.tmp q hq).nb (cl q hq)).go g), by rw [List.length_set]; exact s.len, fun k d e => ?_, fun n es e => ?_, s.oin, fun n b e => ?_, s.fin, s.cl, fun n b es f1 f2 => ?_, s.cn, s.cp, s.cx, s.cnew, fun b o e n => ?_, s.pl⟩
  · by_cases c : i = k
    · subst c
      rw [List.getElem?_set_self hi] at e; cases e
    · rw [List.getElem?_set_ne c] at e
      obtain ⟨v, f1, r⟩ := s.sh k d e
      exact ⟨v, f1, r.go g⟩
  · by_cases c : i = n
    · subst c
      rw [List.getElem?_set_self hi] at e
      cases e
      exact ⟨a, vs, ha, e2, upd_same, r.go g⟩
    · rw [List.getElem?_set_ne c] at e
      obtain ⟨b, ws, f1, f2, f3, r⟩ := s.ow n es e
      exact ⟨b, ws, f1, f2, k f3 fun z => by subst z; exact c (s.oin i n _ ha f1), r.go g⟩
  · obtain ⟨f1, ⟨ws, f2⟩, f3⟩ := s.olt n b e
    by_cases z : b = a
    · subst z
      exact ⟨f1, ⟨vs, upd_same⟩, f3⟩
    · exact ⟨f1, ⟨ws, k f2 z⟩, f3⟩
  · obtain ⟨ws, h1', r⟩ := s.ce n b es f1 f2
    exact ⟨ws, k h1' fun z => by subst z; exact h2 (List.mem_of_getElem? f1), r.go g⟩
  · have n' : b ≠ a := fun z => by subst z; rw [h0] at e; cases e
    rw [upd_ne n']
    exact s.kp b o e n
theorem Sim.setCe (s : Sim F τ own C σd W σ H) {ds : List D} {vs : List V} {k : Nat} {a : Addr} (hk : C[k]? = some a) (r : Reps F.K (Av F.P own) C H ds vs) :
    Sim F τ own C σd (W.set k ds) σ (upd H a (.lst vs)) := by
  have hm := List.mem_of_getElem? hk
  obtain ⟨us, h1⟩ := s.cellAt hm
  have g : Go F.K (Av F.P own) (Av F.P own) C C H (upd H a (.lst vs)) := ⟨Keep.upd h1 (.inr hm), fun _ z => .inl z, fun _ _ z => z, fun _ z => .inl z⟩
  have kk : ∀ {b : Addr} {ws : List V}, H b = some (.lst ws) → b ≠ a → upd H a (.lst vs) b = some (.lst ws) := fun {b ws} e n => by
    rw [upd_ne n]; exact e
  have no : ∀ {n : Nat} {b : Addr}, own n = some b → b ≠ a := fun {n b} e z => by subst z; exact (s.olt n _ e).2.2.1 hm
  refine ⟨fun q hq => ?_, s.len, fun n d e => ?_, fun n es e => ?_, s.oin, fun n b e => ?_, s.fin, by rw [List.length_set]; exact s.cl, fun n b es f1 f2 => ?_, s.cn, s.cp, s.cx, s.cnew, fun b o e n => ?_, s.pl⟩
  · rcases s.tmp q hq with r | r | ⟨n, b, ws, e1, e2, e3, e4⟩
    · exact .inl (r.go g)
    · exact .inr (.inl r)
    · exact .inr (.inr ⟨n, b, ws, e1, e2, e3, kk e4 (no e2)⟩)
  · obtain ⟨v, f1, r⟩ := s.sh n d e
    exact ⟨v, f1, r.go g⟩
  · obtain ⟨b, ws, f1, f2, f3, r⟩ := s.ow n es e
    exact ⟨b, ws, f1, f2, kk f3 (no f1), r.go g⟩
  · obtain ⟨f1, ⟨ws, f2⟩, f3⟩ := s.olt n b e
    exact ⟨f1, ⟨ws, kk f2 (no e)⟩, f3⟩
  · by_cases c : k = n
    · subst c
      rw [hk] at f1
      cases f1
      have hl : k < W.length := by rw [← s.cl]; exact (List.getElem?_eq_some_iff.mp hk).1
      rw [List.getElem?_set_self hl] at f2
      cases f2
      exact ⟨vs, upd_same, r.go g⟩
    · rw [List.getElem?_set_ne c] at f2
      obtain ⟨ws, h1', r⟩ := s.ce n b es f1 f2
      refine ⟨ws, kk h1' fun z => ?_, r.go g⟩
      subst z
      exact c (nodup_at s.cn hk f1)
  · by_cases z : b = a
    · subst z
      rcases s.cnew b hm with w | w
      · have w2 := s.kp b o e n
        rw [h1] at w2
        cases w2
        exact absurd rfl (n w _)
      · rw [w] at e; cases e
    · rw [upd_ne z]
      exact s.kp b o e n
theorem Sim.newCe (s : Sim F τ own C σd W σ H) {ds : List D} {vs : List V} (hp : H p = none) (r : Reps F.K (Av F.P own) C H ds vs) : Sim F ((.cell W.length, .ref p) :: τ) own (C ++ [p]) σd (W ++ [ds]) σ (upd H p (.lst vs)) := by
  have g : Go F.K (Av F.P own) (Av F.P own) C (C ++ [p]) H (upd H p (.lst vs)) := ⟨Keep.new _ hp, fun _ z => .inl z, fun k a z => by
    rw [List.getElem?_append_left (List.getElem?_eq_some_iff.mp z).1]; exact z, fun a z => by
    rcases List.mem_append.mp z with z | z
    · exact .inl z
    · have z' : a = p := by simpa using z
      subst z'
      exact .inr hp⟩
  have kk : ∀ {b : Addr} {ws : List V}, H b = some (.lst ws) → upd H p (.lst vs) b = some (.lst ws) := fun {b ws} e => by
    rw [upd_ne (ne_of_none e hp)]; exact e
  have atp : (C ++ [p])[W.length]? = some p := by
    rw [← s.cl, List.getElem?_append_right (Nat.le_refl _)]
    simp
  refine ⟨fun q hq => ?_, s.len, fun n d e => ?_, fun n es e => ?_, s.oin, fun n b e => ?_, s.fin, by rw [List.length_append, List.length_append, s.cl]; rfl, fun n b es f1 f2 => ?_, ?_, fun a ha => ?_, fun k a e => g.cs k a (s.cx k a e), fun a ha => ?_, s.kp.trans (Keep.new _ hp), s.pl⟩
  · rcases List.mem_cons.mp hq with z | hq
    · subst z
      exact .inl (.cell atp)
    · rcases s.tmp q hq with r | r | ⟨n, b, ws, e1, e2, e3, e4⟩
      · exact .inl (r.go g)
      · exact .inr (.inl r)
      · exact .inr (.inr ⟨n, b, ws, e1, e2, e3, kk e4⟩)
  · obtain ⟨v, f1, r⟩ := s.sh n d e
    exact ⟨v, f1, r.go g⟩
  · obtain ⟨b, ws, f1, f2, f3, r⟩ := s.ow n es e
    exact ⟨b, ws, f1, f2, kk f3, r.go g⟩
  · obtain ⟨f1, ⟨ws, f2⟩, f3, f4⟩ := s.olt n b e
    refine ⟨f1, ⟨ws, kk f2⟩, fun z => ?_, f4⟩
    rcases List.mem_append.mp z with z | z
    · exact f3 z
    · have z' : b = p := by simpa using z
      subst z'
      rw [hp] at f2; cases f2
  · by_cases c : n < C.length
    · rw [List.getElem?_append_left c] at f1
      rw [List.getElem?_append_left (by rw [← s.cl]; exact c)] at f2
      obtain ⟨ws, h1, r⟩ := s.ce n b es f1 f2
      exact ⟨ws, kk h1, r.go g⟩
    · have hn : n = W.length := by
        have := (List.getElem?_eq_some_iff.mp f2).1
        rw [List.length_append] at this
        have h3 := s.cl
        simp at this
        omega
      subst hn
      rw [atp] at f1
      cases f1
      rw [List.getElem?_append_right (Nat.le_refl _)] at f2
      simp at f2
      subst f2
      exact ⟨vs, upd_same, r.go g⟩
  · rw [List.nodup_append]
    refine ⟨s.cn, by simp, fun a ha b hb z => ?_⟩
    have z' : b = p := by simpa using hb
    subst z z'
    exact s.newC hp ha
  · rcases List.mem_append.mp ha with z | z
    · exact s.cp a z
    · have z' : a = p := by simpa using z
      subst z'
      exact fun w => s.newAv hp (.inl w)
  · rcases List.mem_append.mp ha with z | z
    · exact s.cnew a z
    · have z' : a = p := by simpa using z
      subst z'
      exact .inr (s.free0 hp)
/-- a list that only its slot knew is shared from now on -/
theorem Sim.freeze (s : Sim F τ own C σd W σ H) (cl : Cl τ) {xs : List D} (hx : σd[i]? = some (.ow xs)) : ∃ own', Sim F τ own' C (σd.set i (.sh (.lst xs))) W σ H := by
  obtain ⟨a, vs, e1, e2, e3, r⟩ := s.ow i xs hx
  have hi : i < σd.length := (List.getElem?_eq_some_iff.mp hx).1
  let own' : Own := fun k => if k = i then none else own k
  have o1 : ∀ {k : Nat} {b : Addr}, own' k = some b → own k = some b ∧ k ≠ i := fun {k b} e => by
    by_cases c : k = i
    · have e' : (if k = i then none else own k) = some b := e
      rw [if_pos c] at e'; cases e'
    · have e' : (if k = i then none else own k) = some b := e
      rw [if_neg c] at e'
      exact ⟨e', c⟩
  have o2 : ∀ {k : Nat} {b : Addr}, own k = some b → k ≠ i → own' k = some b := fun {k b} e c => by
    show (if k = i then none else own k) = some b
    rw [if_neg c]; exact e
  have g : Go F.K (Av F.P own) (Av F.P own') C C H H := ⟨Keep.refl _ _, fun b z => .inl (by
    rcases z with z | ⟨k, z⟩
    · exact .inl z
    · exact .inr ⟨k, (o1 z).1⟩), fun _ _ z => z, fun _ z => .inl z⟩
  obtain ⟨f0, _, f2, f3⟩ := s.olt i a e1
  refine ⟨own', ⟨fun q hq => .inl (((s.tmp q hq).nb (cl q hq)).go g), by rw [List.length_set]; exact s.len, fun k d e => ?_, fun n es e => ?_, fun k k' b h1 h2 => s.oin k k' b (o1 h1).1 (o1 h2).1, fun n b e => s.olt n b (o1 e).1, ?_, s.cl, fun n b es f1 f2 => ?_, s.cn, s.cp, s.cx, s.cnew, s.kp, s.pl⟩⟩
  · by_cases c : i = k
    · subst c
      rw [List.getElem?_set_self hi] at e
      cases e
      refine ⟨.ref a, e2, .lst e3 (fun z => ?_) f2 (r.go g)⟩
      rcases z with z | ⟨k, z⟩
      · exact f3 z
      · exact (o1 z).2 (s.oin k i a (o1 z).1 e1)
    · rw [List.getElem?_set_ne c] at e
      obtain ⟨v, f1, r⟩ := s.sh k d e
      exact ⟨v, f1, r.go g⟩
  · by_cases c : i = n
    · subst c
      rw [List.getElem?_set_self hi] at e; cases e
    · rw [List.getElem?_set_ne c] at e
      obtain ⟨b, ws, g1, g2, g3, r⟩ := s.ow n es e
      exact ⟨b, ws, o2 g1 (fun z => c z.symm), g2, g3, r.go g⟩
  · obtain ⟨B, hB⟩ := s.fin
    refine ⟨B, fun k hk => ?_⟩
    show (if k = i then none else own k) = none
    split
    · rfl
    · exact hB k hk
  · obtain ⟨ws, h1, r⟩ := s.ce n b es f1 f2
    exact ⟨ws, h1, r.go g⟩
end
/-! ### stores -/
def bG (X : Cx) (tg : Expr) : TG := fun v σ H Q => ∀ (pins : List (Addr × Obj)) (s : Shared) (u : Value), Inv X pins σ H s → RelV v u → wpAny (model X.prog X.w) X.A (assign tg X.env u) (fun _ s' => ∃ σ' H', Inv X pins σ' H' s' ∧ Q σ' H') X.xe s
theorem bG_ok {X : Cx} {tg : Expr} : PG X tg (bG X tg) := ⟨fun pins s σ H v u Q I r h => h pins s u I r⟩
theorem bG_of {X : Cx} {tg : Expr} {t : TG} (h : PG X tg t) {v : V} {σ : L2.St} {H : Hp} {Q : L2.St → Hp → Prop} (k : t v σ H Q) : bG X tg v σ H Q := fun pins s u I r => h.run pins s σ H v u Q I r k
def SndG (G : Env) (X : Cx) (g : Gt) (tg : Expr) : Prop := ∀ {F : Frm} {τ : List (D × V)} {own : Own} {C : List Addr} {σd : Sl} {W : Ce} {σ : L2.St} {H : Hp} {d : D} {v : V} {R : L2.St → Hp → Prop}, F.K = X.K → Cl τ → Sim F τ own C σd W σ H → (d, v) ∈ τ →
  wpG G g d σd W (fun σd' W' => ∀ own' C' σ' H', Sim F τ own' C' σd' W' σ' H' → R σ' H') → bG X tg v σ H R
section
variable {G : Env} {X : Cx} {pos : Pos} {a b c : E} {ea eb ec : Expr}
theorem sndg_name {i : Nat} {x : Str} (hN : X.N.Nodup) (hi : X.N[i]? = some x) (hx : Loc X.env.scope x) (hf : X.fn x = true ∨ X.env.scope.names.lookup x = some .local) : SndG G X (.name i) (.Name x pos) := by
  intro F τ own C σd W σ H d v R hK cl s hm k
  simp only [wpG] at k
  exact bG_of (pg_name hN hi hx hf) (k.2.2 own C _ H (s.setSh ((s.tmp _ hm).nb k.1) k.2.1))
theorem set_vals {xs : List D} {vs : List V} {K : PySem.W.Frag} {A : Addr → Prop} {C : List Addr} {H : Hp} (r : Reps K A C H xs vs) {d : D} {v : V} (rd : Rep K A C H d v) (m : Nat) : Reps K A C H (xs.set m d) (vs.set m v) := r.set rd m
theorem sndg_ix {tpos : Pos} (M : G.Mono) (ha : SndE G X a ea) (hb : SndE G X b eb) (hs : ∀ v, assign (.Subscript ea eb tpos) X.env v = (do
      let ov ← holding [v] (eval ea X.env)
      let iv ← holding [v, ov] (eval eb X.env)
      standAt tpos
      holding [v, ov, iv] (setItem ov iv v)
      release [v, ov, iv] [])) : SndG G X (.ix a b) (.Subscript ea eb tpos) := by
  intro F τ own C σd W σ H d v R hK cl s hm k
  simp only [wpG] at k
  obtain ⟨hd, k⟩ := k
  refine bG_of (pg_sub bE_ok bE_ok set_list hs) (ha hK s (wpE_mono M a (fun o W1 k ov H1 C1 s1 => ?_) k))
  refine hb hK s1 (wpE_mono M b (fun y W2 k iv H2 C2 s2 => ?_) k)
  have rd : Rep F.K (Av F.P own) C2 H2 d v := (s2.tmp _ (List.mem_cons_of_mem _ (List.mem_cons_of_mem _ hm))).nb hd
  have s0 : Sim F τ own C2 σd W2 σ H2 := s2.pop.pop
  cases o with
  | cell n =>
    cases y with
    | int j =>
      cases s2.rep1 rfl
      cases s2.pop.rep1 rfl with
      | cell hk =>
        have k : match setCell n j d W2 with
          | some W3 => ∀ (own' : Own) (C' : List Addr) (σ' : L2.St) (H' : Hp), Sim F τ own' C' σd W3 σ' H' → R σ' H'
          | none => False := k
        unfold setCell at k
        split at k
        · rename_i W3 e
          split at e
          · rename_i xs ex
            rw [Option.map_eq_some_iff] at e
            obtain ⟨m, em, e⟩ := e
            subst e
            obtain ⟨vs, h1, r1⟩ := s0.ce _ _ xs hk ex
            exact ⟨_, vs, j, m, rfl, rfl, h1, by rw [← r1.length]; exact em, k own C2 σ _ (s0.setCe hk (r1.set rd m))⟩
          · cases e
        · exact k.elim
    | _ => exact k.elim
  | bor n =>
    cases y with
    | int j =>
      cases s2.rep1 rfl
      have hb : ∃ a, own n = some a ∧ ov = .ref a := by
        rcases s2.pop.tmp _ List.mem_cons_self with r | ⟨n', a', e1, e2, e3⟩ | ⟨_, _, _, e1, _⟩
        · cases r
        · cases e1
          exact ⟨a', e2, e3⟩
        · cases e1
      obtain ⟨p, hp, rfl⟩ := hb
      have k : match setOw n j d σd with
          | some σ3 => ∀ (own' : Own) (C' : List Addr) (σ' : L2.St) (H' : Hp), Sim F τ own' C' σ3 W2 σ' H' → R σ' H'
          | none => False := k
      unfold setOw at k
      split at k
      · rename_i σ3 e
        split at e
        · rename_i xs ex
          rw [Option.map_eq_some_iff] at e
          obtain ⟨m, em, e⟩ := e
          subst e
          obtain ⟨p', vs, e1, e2, h1, r1⟩ := s0.ow n xs ex
          rw [hp] at e1
          cases e1
          exact ⟨p, vs, j, m, rfl, rfl, h1, by rw [← r1.length]; exact em, k own C2 σ _ (s0.setOw cl ex hp (r1.set rd m))⟩
        · cases e
      · exact k.elim
    | _ => exact k.elim
  | _ => exact k.elim
def bGs (X : Cx) (ts : List Expr) : TGs := fun vs σ H Q => ∀ (pins : List (Addr × Obj)) (s : Shared) (us : List Value), Inv X pins σ H s → Vals vs us →
    wpAny (model X.prog X.w) X.A (assignInOrder ((assignEach ts X.env).map (·.2)) us) (fun _ s' => ∃ σ' H', Inv X pins σ' H' s' ∧ Q σ' H') X.xe s
theorem bGs_ok {ts : List Expr} : PGs X ts (bGs X ts) := ⟨fun pins s σ H vs us Q I r h => h pins s us I r⟩
theorem bGs_of {ts : List Expr} {t : TGs} (h : PGs X ts t) {vs : List V} {σ : L2.St} {H : Hp} {Q : L2.St → Hp → Prop} (k : t vs σ H Q) : bGs X ts vs σ H Q := fun pins s us I r => h.run pins s σ H vs us Q I r k
def SndGs (G : Env) (X : Cx) (gs : Gts) (ts : List Expr) : Prop := ∀ {F : Frm} {τ : List (D × V)} {own : Own} {C : List Addr} {σd : Sl} {W : Ce} {σ : L2.St} {H : Hp} {ds : List D} {vs : List V} {R : L2.St → Hp → Prop}, F.K = X.K → Cl τ → Sim F τ own C σd W σ H → ds.length = vs.length → (∀ q ∈ ds.zip vs, q ∈ τ) →
  wpGs G gs ds σd W (fun σd' W' => ∀ own' C' σ' H', Sim F τ own' C' σd' W' σ' H' → R σ' H') → bGs X ts vs σ H R
theorem sndgs_nil : SndGs G X .nil [] := by
  intro F τ own C σd W σ H ds vs R hK cl s hl hm k
  simp only [wpGs] at k
  split at k
  · cases vs with
    | nil => exact bGs_of pgs_nil ⟨rfl, k own C σ H s⟩
    | cons v vs => cases hl
  · exact k.elim
theorem sndgs_cons {g : Gt} {gs : Gts} {e : Expr} {es : List Expr} (M : G.Mono) (hg : SndG G X g e) (hgs : SndGs G X gs es) (hn : noStar e = true) : SndGs G X (.cons g gs) (e :: es) := by
  intro F τ own C σd W σ H ds vs R hK cl s hl hm k
  simp only [wpGs] at k
  split at k
  · rename_i d r
    cases vs with
    | nil => cases hl
    | cons v vr =>
      refine bGs_of (pgs_cons bG_ok bGs_ok (by rw [asg_cons hn]; rfl)) ⟨v, vr, rfl, ?_⟩
      refine hg hK cl s (hm _ List.mem_cons_self) (wpG_mono M g (fun σ1 W1 k own1 C1 σ2 H1 s1 => ?_) k)
      exact hgs hK cl s1 (by simpa using hl) (fun q hq => hm q (List.mem_cons_of_mem _ hq)) k
  · exact k.elim
theorem sndg_tup {gs : Gts} {es : List Expr} {j : Nat} (M : G.Mono) (hc : X.calm = true) (hgs : SndGs G X gs es) (hn : es.all noStar = true) (hlen : es.length = tgN gs) : SndG G X (.tup gs) (.Tuple es j pos) := by
  intro F τ own C σd W σ H d v R hK cl s hm k
  simp only [wpG] at k
  split at k
  · rename_i xs
    have r := (s.tmp _ hm).nb rfl
    have r : Rep F.K (Av F.P own) C H (.tup xs) v := r
    cases r with
    | tup h1 r1 =>
      rename_i p vs
      have nb : ∀ {ds : List D} {ws : List V}, Reps F.K (Av F.P own) C H ds ws → ∀ q ∈ ds.zip ws, RepT F.K F.P own C H q.1 q.2 ∧ q.1.nb = true := by
        intro ds ws r
        induction ds generalizing ws with
        | nil => intro q hq; cases hq
        | cons d ds ih =>
          cases r with
          | cons r rr =>
            intro q hq
            rcases List.mem_cons.mp hq with z | z
            · subst z
              exact ⟨.inl r, r.nb⟩
            · exact ih rr q z
      have s1 : Sim F (xs.zip vs ++ τ) own C σd W σ H := by
        refine { s with tmp := fun q hq => ?_ }
        rcases List.mem_append.mp hq with z | z
        · exact (nb r1 q z).1
        · exact s.tmp q z
      have cl1 : Cl (xs.zip vs ++ τ) := fun q hq => by
        rcases List.mem_append.mp hq with z | z
        · exact (nb r1 q z).2
        · exact cl q z
      obtain ⟨h3, h4⟩ := asg_none (env := X.env) hn
      have hx : es.length = vs.length := by rw [hlen, ← r1.length]; exact k.1.symm
      refine bG_of (pg_tup hc bGs_ok (h3.trans hx) h4) ⟨p, vs, rfl, by rw [← hK]; exact h1, rfl, ?_⟩
      exact hgs hK cl1 s1 r1.length (fun q hq => List.mem_append_left _ hq) (wpGs_mono M gs (fun σ1 W1 k own1 C1 σ2 H1 s2 => k own1 C1 σ2 H1 (s2.sub fun q hq => List.mem_append_right _ hq)) k.2)
  · exact k.elim
end
end Bn

set_option Elab.async false
set_option linter.all false
set_option maxRecDepth 100000
/-! Bn, part 15: statements, one by one. -/
namespace Bn
open PySem PySem.Spec PyProof.Rows L2

def bS (X : Cx) (st : Stmt) : TS := fun D σ H => ∀ (pins : List (Addr × Obj)) (s : Shared), Inv X pins σ H s → wpAny (model X.prog X.w) X.A (exec st X.env) (SP X pins D) X.xe s
theorem bS_ok {X : Cx} {st : Stmt} : PS X st (bS X st) := ⟨fun pins s σ H D I h => h pins s I⟩
theorem bS_of {X : Cx} {st : Stmt} {t : TS} (h : PS X st t) {D : Ends} {σ : L2.St} {H : Hp} (k : t D σ H) : bS X st D σ H := fun pins s I => h.run pins s σ H D I k
def bSs (X : Cx) (st : List Stmt) : TS := fun D σ H => ∀ (pins : List (Addr × Obj)) (s : Shared), Inv X pins σ H s → wpAny (model X.prog X.w) X.A (execs st X.env) (SP X pins D) X.xe s
theorem bSs_ok {X : Cx} {st : List Stmt} : PSs X st (bSs X st) := ⟨fun pins s σ H D I h => h pins s I⟩
theorem bSs_of {X : Cx} {st : List Stmt} {t : TS} (h : PSs X st t) {D : Ends} {σ : L2.St} {H : Hp} (k : t D σ H) : bSs X st D σ H := fun pins s I => h.run pins s σ H D I k

/-- the ends of the code, as the small syntax sees them -/
def edOf (F : Frm) (τ : List (D × V)) (E : Ends) : Ed where
  nx := fun σd W => ∀ own C σ H, Sim F τ own C σd W σ H → E.nx σ H
  rt := fun d W => ∀ v own C σd σ H, d.nb = true → Sim F ((d, v) :: τ) own C σd W σ H → E.rt v H
  bk := fun σd W => ∀ own C σ H, Sim F τ own C σd W σ H → E.bk σ H
  ct := fun σd W => ∀ own C σ H, Sim F τ own C σd W σ H → E.ct σ H
def SndS (G : Env) (X : Cx) (m : S) (st : Stmt) : Prop := ∀ {F : Frm} {τ : List (D × V)} {own : Own} {C : List Addr} {σd : Sl} {W : Ce} {σ : L2.St} {H : Hp} {E : Ends}, F.K = X.K → Cl τ → Sim F τ own C σd W σ H → wpS G m σd W (edOf F τ E) → bS X st E σ H
def SndSs (G : Env) (X : Cx) (m : Ss) (st : List Stmt) : Prop := ∀ {F : Frm} {τ : List (D × V)} {own : Own} {C : List Addr} {σd : Sl} {W : Ce} {σ : L2.St} {H : Hp} {E : Ends}, F.K = X.K → Cl τ → Sim F τ own C σd W σ H → wpSs G m σd W (edOf F τ E) → bSs X st E σ H

section
variable {G : Env} {X : Cx} {pos : Pos} {a b c e : E} {ea eb ec ex : Expr} {as : Es} {eas : List Expr}
theorem snds_nil : SndSs G X .nil [] := by
  intro F τ own C σd W σ H E hK cl s k
  simp only [wpSs] at k
  exact bSs_of pss_nil (k own C σ H s)
theorem snds_cons {m : S} {ms : Ss} {st : Stmt} {sts : List Stmt} (M : G.Mono) (h1 : SndS G X m st) (h2 : SndSs G X ms sts) : SndSs G X (.cons m ms) (st :: sts) := by
  intro F τ own C σd W σ H E hK cl s k
  simp only [wpSs] at k
  refine bSs_of (pss_cons bS_ok bSs_ok) (h1 (E := { E with nx := bSs X sts E }) hK cl s (wpS_mono M m ?_ k))
  exact ⟨fun σ1 W1 k own1 C1 σ2 H1 s1 => h2 hK cl s1 k, fun _ _ k => k, fun _ _ k => k, fun _ _ k => k⟩
/-- no comprehension -/
def noLc : Expr → Bool
  | .ListComp _ _ _ _ | .SetComp _ _ _ _ | .DictComp _ _ _ _ _ => false
  | _ => true
theorem swap_no {e : Expr} {t : Option Expr} {l : Nat} {env : PySem.Env} (h : noLc e = true) : swapsWith e t l env = pure false := by
  cases e <;> first | rfl | cases h
theorem sole_no {tg e : Expr} {l : Nat} {env : PySem.Env} (h : noLc e = true) : swapsWithSole [tg] e l env = pure false := swap_no h
theorem sole_not {tg e : Expr} {l : Nat} {env : PySem.Env} (h : ∀ x q, tg ≠ .Name x q) : swapsWithSole [tg] e l env = pure false := by
  show swapsWith e (some tg) l env = pure false
  cases e <;> first | rfl | (cases tg <;> first | rfl | exact absurd rfl (h _ _))
theorem s_asg {g : Gt} {tg : Expr} (M : G.Mono) (he : SndE G X e ex) (hg : SndG G X g tg) (hc : ∀ {F : Frm} {τ : List (D × V)} {own : Own} {C : List Addr} {σd : Sl} {W : Ce} {σ : L2.St} {H : Hp} {d : D} {v : V} {Q : Sl → Ce → Prop}, Sim F ((d, v) :: τ) own C σd W σ H → wpG G g d σd W Q → d.nb = true)
    (hs : swapsWithSole [tg] ex pos.line X.env = pure false) (hw : swappedStores [tg] ex X.env = pure none) (hn : noStar tg = true) : SndS G X (.asg g e) (.Assign [tg] ex pos) := by
  intro F τ own C σd W σ H E hK cl s k
  simp only [wpS] at k
  refine bS_of (ps_asg bE_ok bG_ok hs hw (by rw [asg_cons hn]; rfl)) (he hK s (wpE_mono M e (fun d W1 k v H1 C1 s1 => ?_) k))
  have nb := hc s1 k
  refine hg hK (fun q hq => ?_) s1 List.mem_cons_self (wpG_mono M g (fun σ1 W2 k own' C' σ' H' s2 => k own' C' σ' H' s2.pop) k)
  rcases List.mem_cons.mp hq with z | z
  · subst z; exact nb
  · exact cl q z
theorem g_nb {g : Gt} {F : Frm} {τ : List (D × V)} {own : Own} {C : List Addr} {σd : Sl} {W : Ce} {σ : L2.St} {H : Hp} {d : D} {v : V} {Q : Sl → Ce → Prop} (k : wpG G g d σd W Q) : d.nb = true := by
  cases g with
  | name i => simp only [wpG] at k; exact k.1
  | tup gs =>
    simp only [wpG] at k
    split at k
    · rfl
    · exact k.elim
  | ix a b => simp only [wpG] at k; exact k.1
/-- name = [..]: whichever way the model takes -/
def swB (sc sc2 : Scope) (t : Str) (lt lv : Nat) : Bool := decide (sc.kind = .function) && decide (sc.names.lookup t = some .local) && (lt == lv) && !(sc2.names.any fun (n, k) => n == t && (k == .local || k == .cell))
theorem sw_is {elt : Expr} {gs : List Comprehension} {scope : Scope} {q py : Pos} {y : Str} {l : Nat} {env : PySem.Env} (hk : env.scope.kind = .function) :
    swapsWith (.ListComp elt gs scope q) (some (.Name y py)) l env = pure ((env.kindOf y == some .local) && (py.line == q.line) && !(scope.names.any fun (n, k) => n == y && (k == .local || k == .cell))) := by
  have hb : env.blockKind = .function := by unfold Env.blockKind; rw [hk]; rfl
  unfold swapsWith
  simp only [hb, Expr.pos]
  rfl
theorem s_lc {it : I} {g : Gt} {cond elt : E} {vs : List Nat} {eelt tg iter : Expr} {ifs : List Expr} {scope : Scope} {own' : List (Str × Nat)} {i : Nat} {x : Str} {q py : Pos} (M : G.Mono) (h : LcOk G X it g cond elt vs eelt tg iter ifs scope own') (hk : X.env.scope.kind = .function)
    (hi : X.N[i]? = some x) (hx : Loc X.env.scope x) (hf : X.fn x = true ∨ X.env.scope.names.lookup x = some .local) :
    PS X (.Assign [.Name x py] (.ListComp eelt [⟨tg, iter, ifs, 0⟩] scope q) pos) (tAsg (tLc (bI X tg iter) (tgOf X.K g) (ttOf X scope ifs) (bEB X scope eelt) vs) (gName i)) := by
  rw [← h.hown]
  by_cases hb : ((X.env.kindOf x == some .local) && (py.line == q.line) && !(scope.names.any fun (n, k) => n == x && (k == .local || k == .cell))) = true
  · have hl : X.env.scope.names.lookup x = some .local := by
      simp only [Bool.and_eq_true] at hb
      have := hb.1.1
      have e : X.env.kindOf x = X.env.scope.names.lookup x := rfl
      rw [e] at this
      simpa using this
    exact ps_setLc h.calm h.nd hi hl (by rw [sw_is hk, hb]) bI_ok h.ok h.tg h.tests (fun s H C cl fp => pe_blk s H C cl fp) h.folded
  · exact ps_set h.nd hi hx (pe_lc h.calm h.nd bI_ok h.ok h.tg h.tests (fun s H C cl fp => pe_blk s H C cl fp) h.folded) (by rw [sw_is hk, Bool.eq_false_iff.mpr hb]) hf
theorem s_asgLc {it : I} {g : Gt} {cond elt : E} {vs : List Nat} {eelt tg iter : Expr} {ifs : List Expr} {scope : Scope} {own' : List (Str × Nat)} {i : Nat} {x : Str} {q py : Pos} (M : G.Mono) (h : LcOk G X it g cond elt vs eelt tg iter ifs scope own') (hk : X.env.scope.kind = .function)
    (hi : X.N[i]? = some x) (hx : Loc X.env.scope x) (hf : X.fn x = true ∨ X.env.scope.names.lookup x = some .local) : SndS G X (.asg (.name i) (.lc it g cond elt vs)) (.Assign [.Name x py] (.ListComp eelt [⟨tg, iter, ifs, 0⟩] scope q) pos) := by
  intro F τ own C σd W σ H E hK cl s k
  simp only [wpS] at k
  refine bS_of (s_lc M h hk hi hx hf) (lc_read M h.it h.sub h.sndB h.sndV hK s (wpE_mono M _ (fun d W1 k => ?_) (lc_lst M k)))
  obtain ⟨⟨ds, rfl⟩, k⟩ := k
  refine ⟨ds, rfl, fun p vs H' C' j hj hl s1 hH r => ?_⟩
  simp only [wpG] at k
  have s2 := s.share s1 hj hl hH r
  exact k.2.2 own C' _ H' (s2.pop.setSh (s2.rep1 rfl) k.2.1)
theorem s_ownLc {it : I} {g : Gt} {cond elt : E} {vs : List Nat} {eelt tg iter : Expr} {ifs : List Expr} {scope : Scope} {own' : List (Str × Nat)} {i : Nat} {x : Str} {q py : Pos} (M : G.Mono) (h : LcOk G X it g cond elt vs eelt tg iter ifs scope own') (hk : X.env.scope.kind = .function)
    (hi : X.N[i]? = some x) (hx : Loc X.env.scope x) (hf : X.fn x = true ∨ X.env.scope.names.lookup x = some .local) : SndS G X (.own i (.lc it g cond elt vs)) (.Assign [.Name x py] (.ListComp eelt [⟨tg, iter, ifs, 0⟩] scope q) pos) := by
  intro F τ own C σd W σ H E hK cl s k
  simp only [wpS] at k
  refine bS_of (s_lc M h hk hi hx hf) (lc_read M h.it h.sub h.sndB h.sndV hK s (wpE_mono M _ (fun d W1 k => ?_) (lc_lst M k)))
  obtain ⟨⟨ds, rfl⟩, k⟩ := k
  exact ⟨ds, rfl, fun p vs H' C' j hj hl s1 hH r => k.2 _ C' _ H' (s1.place cl hj hl k.1 hH r)⟩
theorem s_own {i : Nat} {x : Str} {py : Pos} (M : G.Mono) (he : SndF G X e ex) (hnl : noLc ex = true) (hN : X.N.Nodup) (hi : X.N[i]? = some x) (hx : Loc X.env.scope x) (hf : X.fn x = true ∨ X.env.scope.names.lookup x = some .local) : SndS G X (.own i e) (.Assign [.Name x py] ex pos) := by
  intro F τ own C σd W σ H E hK cl s k
  simp only [wpS] at k
  refine bS_of (ps_set hN hi hx bE_ok (swap_no hnl) hf) (he hK s (wpE_mono M e (fun d W1 k => ?_) k))
  split at k
  · rename_i ds
    exact ⟨ds, rfl, fun p vs H' C' j hj hl s1 hH r => k.2 _ C' _ H' (s1.place cl hj hl k.1 hH r)⟩
  · exact k.elim
theorem s_ret (M : G.Mono) (he : SndE G X e ex) : SndS G X (.ret e) (.Return (some ex) pos) := by
  intro F τ own C σd W σ H E hK cl s k
  simp only [wpS] at k
  exact bS_of (ps_ret bE_ok) (he hK s (wpE_mono M e (fun d W1 k v H1 C1 s1 => k.2 v own C1 σd σ H1 k.1 s1) k))
theorem s_retCell {pos2 : Pos} (M : G.Mono) (hs : SndA G X as eas) : SndS G X (.retCell as) (.Return (some (.List eas pos)) pos2) := by
  intro F τ own C σd W σ H E hK cl s k
  simp only [wpS] at k
  refine bS_of (ps_ret (pe_lst bA_ok)) (hs hK s (wpEs_mono M as (fun ds W1 k vs H1 C1 hl s1 => ?_) k))
  exact ⟨by rw [← hl]; exact k.1.2, fun p hp => k.2 _ own _ σd σ _ rfl (s1.newCe hp (s1.reps hl k.1.1)).drop1⟩
theorem s_drop (M : G.Mono) (he : SndE G X e ex) (hn : noLc ex = true) : SndS G X (.drop e) (.Expr ex pos) := by
  intro F τ own C σd W σ H E hK cl s k
  simp only [wpS] at k
  exact bS_of (ps_expr bE_ok (swap_no hn)) (he hK s (wpE_mono M e (fun d W1 k v H1 C1 s1 => k own C1 σ H1 s1.pop) k))
theorem s_if {ma mb : Ss} {sa sb : List Stmt} (M : G.Mono) (hc : SndT G X c ec) (ha : SndSs G X ma sa) (hb : SndSs G X mb sb) : SndS G X (.sif c ma mb) (.If ec sa sb pos) := by
  intro F τ own C σd W σ H E hK cl s k
  simp only [wpS] at k
  refine bS_of (ps_if bT_ok bSs_ok bSs_ok) (hc hK s (wpT_mono M c (fun z W1 k H1 C1 s1 => ?_) k))
  split
  · rename_i e
    rw [if_pos e] at k
    exact ha hK cl s1 k
  · rename_i e
    rw [if_neg e] at k
    exact hb hK cl s1 k
theorem s_brk : SndS G X .brk (.Break pos) := by
  intro F τ own C σd W σ H E hK cl s k
  simp only [wpS] at k
  exact bS_of ps_break (k own C σ H s)
theorem s_cont : SndS G X .cont (.Continue pos) := by
  intro F τ own C σd W σ H E hK cl s k
  simp only [wpS] at k
  exact bS_of ps_continue (k own C σ H s)
theorem s_pass : SndS G X .pass (.Pass pos) := by
  intro F τ own C σd W σ H E hK cl s k
  simp only [wpS] at k
  exact bS_of ps_pass (k own C σ H s)
theorem s_never {st : Stmt} : SndS G X .never st := by
  intro F τ own C σd W σ H E hK cl s k
  simp only [wpS] at k
theorem s_frz {i : Nat} {m : S} {st : Stmt} (h : SndS G X m st) : SndS G X (.frz i m) st := by
  intro F τ own C σd W σ H E hK cl s k
  simp only [wpS] at k
  split at k
  · rename_i xs e
    obtain ⟨own', s1⟩ := s.freeze cl e
    exact h hK cl s1 k
  · exact k.elim
/-- x.append(e) -/
theorem s_app {x : Str} {xp apos cpos : Pos} (M : G.Mono) (ha : SndE G X a (.Name x xp)) (he : SndE G X e ex) (hn : noStar ex = true) (hl : (apos.endLine == cpos.line) = true) : SndS G X (.app a e) (.Expr (.Call (.Attribute (.Name x xp) "append" apos) [ex] [] cpos) pos) := by
  intro F τ own C σd W σ H E hK cl s k
  simp only [wpS] at k
  refine bS_of (ps_expr (pe_bm PySem.F.plainAttrs_list PySem.F.slot_list_append PySem.F.type_list_append mt_append bE_ok (pa_cons bE_ok pa_nil (star_cons hn)) (by rfl) ?_ hl (star_cons hn) (star_none (by rfl))) (by rfl)) (ha hK s (wpE_mono M a (fun o W1 k ov H1 C1 s1 => ?_) k))
  · rw [star_cons hn]
    rfl
  · have key : ∀ {i : Nat} {xs : List D}, o = .bor i → σd[i]? = some (.ow xs) → ∃ p vs, ov = .ref p ∧ own i = some p ∧ H1 p = some (.lst vs) := fun {i xs} e1 e2 => by
      subst e1
      rcases s1.tmp _ List.mem_cons_self with r | ⟨n', a', f1, f2, f3⟩ | ⟨_, _, _, f1, _⟩
      · cases r
      · cases f1
        obtain ⟨q, vs, g1, g2, g3, r⟩ := s1.ow _ _ e2
        rw [f2] at g1
        cases g1
        exact ⟨a', vs, f3, f2, g3⟩
      · cases f1
    split at k
    · rename_i i
      split at k
      · rename_i xs hx
        obtain ⟨p, vs, rfl, hp, hH⟩ := key rfl hx
        refine ⟨.inl ⟨rfl, vs, SqL.of hH⟩, he hK s1 (wpE_mono M e (fun x W2 k v H2 C2 s2 => ?_) k)⟩
        obtain ⟨q, ws, g1, g2, g3, r⟩ := s2.ow i xs hx
        rw [hp] at g1
        cases g1
        have rx := s2.rep1 k.1.1
        exact ⟨p, ws, v, rfl, rfl, g3, by rw [← r.length]; exact k.1.2, k.2 own C2 σ _ (s2.pop.pop.setOw cl hx hp (r.append (.cons rx .nil)))⟩
      · exact k.elim
    · exact k.elim
/-- a, b = x, y with plain local names -/
theorem s_par2 {i j : Nat} {x y : Str} {px py pt pt2 : Pos} {kt k2 : Nat} (M : G.Mono) (ha : SndE G X a ea) (hb : SndE G X b eb) (hn : noStar ea = true) (hn2 : noStar eb = true) (hc : X.calm = true) (hN : X.N.Nodup) (hi : X.N[i]? = some x) (hj : X.N[j]? = some y) (hij : i ≠ j)
    (hx : X.env.scope.names.lookup x = some .local) (hy : X.env.scope.names.lookup y = some .local) (hw : swappedStores [.Tuple [.Name x px, .Name y py] kt pt] (.Tuple [ea, eb] k2 pt2) X.env = pure (some [x, y])) :
    SndS G X (.par2 i j a b) (.Assign [.Tuple [.Name x px, .Name y py] kt pt] (.Tuple [ea, eb] k2 pt2) pos) := by
  intro F τ own C σd W σ H E hK cl s k
  simp only [wpS] at k
  refine bS_of (ps_par hc hN hi hj hij hx hy (pa_cons bE_ok (pa_cons bE_ok pa_nil (star_cons hn2)) (star_cons hn)) hw) (ha hK s (wpE_mono M a (fun d W1 k v H1 C1 s1 => ?_) k))
  refine hb hK s1 (wpE_mono M b (fun d2 W2 k u H2 C2 s2 => ?_) k)
  obtain ⟨⟨n1, n2, l1, l2⟩, k⟩ := k
  have r2 := s2.rep1 n2
  have r1 := s2.pop.rep1 n1
  refine ⟨v, u, rfl, k own C2 _ H2 ?_⟩
  exact (s2.pop.pop.setSh r1 l1).setSh r2 (by rw [List.length_set]; exact l2)
theorem s_par3 {i j l : Nat} {x y z : Str} {px py pz pt pt2 : Pos} {kt k2 : Nat} (M : G.Mono) (ha : SndE G X a ea) (hb : SndE G X b eb) (hcc : SndE G X c ec) (hn : noStar ea = true) (hn2 : noStar eb = true) (hn3 : noStar ec = true) (hc : X.calm = true) (hN : X.N.Nodup) (hi : X.N[i]? = some x) (hj : X.N[j]? = some y) (hl : X.N[l]? = some z) (hij : i ≠ j) (hil : i ≠ l) (hjl : j ≠ l)
    (hx : X.env.scope.names.lookup x = some .local) (hy : X.env.scope.names.lookup y = some .local) (hz : X.env.scope.names.lookup z = some .local) (hw : swappedStores [.Tuple [.Name x px, .Name y py, .Name z pz] kt pt] (.Tuple [ea, eb, ec] k2 pt2) X.env = pure (some [x, y, z])) :
    SndS G X (.par3 i j l a b c) (.Assign [.Tuple [.Name x px, .Name y py, .Name z pz] kt pt] (.Tuple [ea, eb, ec] k2 pt2) pos) := by
  intro F τ own C σd W σ H E hK cl s k
  simp only [wpS] at k
  refine bS_of (ps_par3 hc hN hi hj hl hij hil hjl hx hy hz (pa_cons bE_ok (pa_cons bE_ok (pa_cons bE_ok pa_nil (star_cons hn3)) (star_cons hn2)) (star_cons hn)) hw) (ha hK s (wpE_mono M a (fun d W1 k v H1 C1 s1 => ?_) k))
  refine hb hK s1 (wpE_mono M b (fun d2 W2 k u H2 C2 s2 => ?_) k)
  refine hcc hK s2 (wpE_mono M c (fun d3 W3 k w H3 C3 s3 => ?_) k)
  obtain ⟨⟨n1, n2, n3, l1, l2, l3⟩, k⟩ := k
  have r3 := s3.rep1 n3
  have r2 := s3.pop.rep1 n2
  have r1 := s3.pop.pop.rep1 n1
  refine ⟨v, u, w, rfl, k own C3 _ H3 ?_⟩
  exact ((s3.pop.pop.pop.setSh r1 l1).setSh r2 (by rw [List.length_set]; exact l2)).setSh r3 (by rw [List.length_set, List.length_set]; exact l3)
/-- for -/
theorem s_for {it : I} {g : Gt} {m : Ss} {tg iter : Expr} {body : List Stmt} (M : G.Mono) (hI : SndI G X true it tg iter) (hf : ∀ x, foldedSetIterable iter X.env x = pure x) (hg : PG X tg (tgOf X.K g)) (hb : SndSs G X m body) (hc : X.calm = true) (hxe : X.xe = fun _ _ => False) :
    SndS G X (.sfor it g m) (.For tg iter body [] pos) := by
  intro F τ own C σd W σ H E hK cl s k
  simp only [wpS] at k
  refine bS_of (ps_for (by rw [hxe]; exact PassesOwn.never) hc bI_ok hg bSs_ok hf) (hI hK s (wpI_mono M it (fun xs W1 k J H1 C1 src hsrc ok s1 => ?_) k))
  have cl1 : Cl (src ++ τ) := fun q hq => by
    rcases List.mem_append.mp hq with z | z
    · exact hsrc rfl q z
    · exact cl q z
  have up : Ed.le (edOf F τ E) (edOf F (src ++ τ) E) :=
    ⟨fun _ _ k own C σ H s => k own C σ H (s.sub fun q hq => List.mem_append_right _ hq), fun _ _ k v own C σd σ H h s => k v own C σd σ H h (s.sub fun q hq => by
      rcases List.mem_cons.mp hq with z | z
      · subst z; exact List.mem_cons_self
      · exact List.mem_cons_of_mem _ (List.mem_append_right _ z)), fun _ _ k own C σ H s => k own C σ H (s.sub fun q hq => List.mem_append_right _ hq), fun _ _ k own C σ H s => k own C σ H (s.sub fun q hq => List.mem_append_right _ hq)⟩
  refine ⟨fun i m' σ' H' => m' = xs.length - i ∧ i ≤ xs.length ∧ ∃ own' C' σd' W', Sim F (src ++ τ) own' C' σd' W' σ' H' ∧ forL (fun x σ W d => match gset g x σ with
      | some σ1 => wpSs G m σ1 W d
      | none => False) (xs.drop i) σd' W' (edOf F (src ++ τ) E), ⟨_, rfl, Nat.zero_le _, own, C1, σd, W1, s1, ?_⟩, ?_⟩
  · rw [List.drop_zero]
    refine forL_mono (fun x σ W d d' h k => ?_) up k
    split
    · rename_i e
      rw [e] at k
      exact wpSs_mono M m h k
    · rename_i e
      rw [e] at k
      exact k
  rintro i m' σ2 H2 ⟨rfl, hi, own2, C2, σd2, W2, s2, k2⟩
  have it2 := ok (F := F) hK s2 (fun q hq => List.mem_append_left _ hq) (.inl rfl) i
  by_cases hlt : i < xs.length
  · obtain ⟨go, yl⟩ := it2.2 xs[i] (by simp [hlt])
    refine .inr ⟨go, _, fun σ' H' w => ⟨xs.length - (i + 1), by omega, w⟩, fun x H3 y => ?_⟩
    have s3 := yl x H3 y
    rw [List.drop_eq_getElem_cons hlt] at k2
    simp only [forL] at k2
    split at k2
    · rename_i σ4 eg
      rw [← hK]
      refine gset_ok s3.pop (s3.rep1 (gset_nb eg)) eg fun σ5 s5 _ => ?_
      refine hb (E := { E with nx := _, ct := _, bk := E.nx }) hK cl1 s5 (wpSs_mono M m ?_ k2)
      exact ⟨fun σd' W' k own' C' σ' H' s' => ⟨rfl, hlt, own', C', σd', W', s', k⟩, fun _ _ k => k, fun _ _ k => k, fun σd' W' k own' C' σ' H' s' => ⟨rfl, hlt, own', C', σd', W', s', k⟩⟩
    · exact k2.elim
  · have e : i = xs.length := by omega
    subst e
    rw [List.drop_length] at k2
    exact .inl ⟨it2.1 (Nat.le_refl _), k2 own2 C2 σ2 H2 s2⟩
/-- while -/
theorem s_while {m : Ss} {body : List Stmt} (M : G.Mono) (hc : SndT G X c ec) (hb : SndSs G X m body) (hxe : X.xe = fun _ _ => False) : SndS G X (.swhile c m) (.While ec body [] pos) := by
  intro F τ own C σd W σ H E hK cl s k
  simp only [wpS] at k
  refine bS_of (ps_while (by rw [hxe]; exact PassesOwn.never) bT_ok bSs_ok) ?_
  obtain ⟨n, k⟩ := k
  refine ⟨fun n σ' H' => ∃ own' C' σd' W', Sim F τ own' C' σd' W' σ' H' ∧ whileN (wpT G c) (wpSs G m) n σd' W' (edOf F τ E), ⟨n, own, C, σd, W, s, k⟩, ?_⟩
  rintro n σ1 H1 ⟨own1, C1, σd1, W1, s1, k1⟩
  cases n with
  | zero => exact k1.elim
  | succ n =>
    refine hc hK s1 (wpT_mono M c (fun z W2 k H2 C2 s2 => ?_) k1)
    split
    · rename_i e
      rw [if_pos e] at k
      refine ⟨_, fun σ' H' w => ⟨n, Nat.lt_succ_self n, w⟩, ?_⟩
      refine hb (E := { E with nx := _, ct := _, bk := E.nx }) hK cl s2 (wpSs_mono M m ?_ k)
      exact ⟨fun σd' W' k own' C' σ' H' s' => ⟨own', C', σd', W', s', k⟩, fun _ _ k => k, fun _ _ k => k, fun σd' W' k own' C' σ' H' s' => ⟨own', C', σd', W', s', k⟩⟩
    · rename_i e
      rw [if_neg e] at k
      exact k own1 C2 σ1 H2 s2
end
end Bn

set_option Elab.async false
set_option linter.all false
set_option maxRecDepth 100000
/-! Bn, part 16: the checker of statements. -/
namespace Bn
open PySem PySem.Spec PyProof.Rows L2

/-- which plain names a tuple is stored to from the right; none: not known here -/
def swNames (kd : Str → Option NameKind) (ts : List Expr) : List Str := ts.filterMap fun
  | .Name id pos => if (kd id == some .local && pos.line == (ts.head?.map (·.pos.line)).getD 0) = true then some id else none
  | _ => none
def isStar : Expr → Bool
  | .Starred _ _ => true
  | _ => false
def swOut (kd : Str → Option NameKind) (bk : ScopeKind) (ts vs : List Expr) : Option (Option (List Str)) :=
  if (!(ts.length == 2 || ts.length == 3) || vs.length != ts.length || bk != .function) = true then some none
  else if (vs.any isStar) = true then some none
  else if ((swNames kd ts).length != ts.length || (swNames kd ts).eraseDups.length != (swNames kd ts).length) = true then some none
  else if vs.all (foldedForSure 8) = true then some none
  else if vs.all (constantsAlone 8) = true then none
  else some (some (swNames kd ts))
theorem sw_out {ts vs : List Expr} {k k2 : Nat} {q q2 : Pos} {env : PySem.Env} {r : Option (List Str)} (h : swOut env.kindOf env.blockKind ts vs = some r) : swappedStores [.Tuple ts k q] (.Tuple vs k2 q2) env = pure r := by
  unfold swappedStores
  unfold swOut at h
  simp only []
  by_cases c1 : (!(ts.length == 2 || ts.length == 3) || vs.length != ts.length || env.blockKind != .function) = true
  · rw [if_pos c1] at h ⊢
    cases h
    rfl
  · rw [if_neg c1] at h ⊢
    by_cases c2 : (vs.any isStar) = true
    · rw [if_pos c2] at h
      refine (if_pos ?_).trans ?_
      · exact c2
      · cases h
        rfl
    · rw [if_neg c2] at h
      refine (if_neg ?_).trans ?_
      · exact c2
      by_cases c3 : ((swNames env.kindOf ts).length != ts.length || (swNames env.kindOf ts).eraseDups.length != (swNames env.kindOf ts).length) = true
      · rw [if_pos c3] at h
        refine (if_pos ?_).trans ?_
        · exact c3
        · cases h
          rfl
      · rw [if_neg c3] at h
        refine (if_neg ?_).trans ?_
        · exact c3
        · by_cases c4 : vs.all (foldedForSure 8) = true
          · rw [if_pos c4] at h ⊢
            cases h
            rfl
          · rw [if_neg c4] at h ⊢
            by_cases c5 : vs.all (constantsAlone 8) = true
            · rw [if_pos c5] at h
              cases h
            · rw [if_neg c5] at h ⊢
              cases h
              rfl
theorem sw_other {tg v : Expr} {env : PySem.Env} (h : ∀ ts k q vs k2 q2, ¬ (tg = .Tuple ts k q ∧ v = .Tuple vs k2 q2)) (h2 : ∀ ts q, tg ≠ .List ts q) : swappedStores [tg] v env = pure none := by
  unfold swappedStores
  cases tg <;> first
    | exact absurd rfl (h2 _ _)
    | rfl
    | (cases v <;> first | rfl | exact absurd ⟨rfl, rfl⟩ (h _ _ _ _ _ _))
def kdOf (sc : Scope) (x : Str) : Option NameKind := sc.names.lookup x
def swNone (sc : Scope) (tg v : Expr) : Bool := match tg, v with
  | .Tuple ts _ _, .Tuple vs _ _ => decide (swOut (kdOf sc) .function ts vs = some none)
  | .List _ _, _ => false
  | _, _ => true
theorem sw_none {sc : Scope} {tg v : Expr} {env : PySem.Env} (he : env.scope = sc) (hk : sc.kind = .function) (h : swNone sc tg v = true) : swappedStores [tg] v env = pure none := by
  have hb : env.blockKind = .function := by unfold Env.blockKind; rw [he, hk]; rfl
  have hkd : env.kindOf = kdOf sc := by
    funext x
    show env.scope.names.lookup x = _
    rw [he]
    rfl
  unfold swNone at h
  split at h
  · exact sw_out (by rw [hkd, hb]; exact of_decide_eq_true h)
  · cases h
  · rename_i h1 h2
    exact sw_other (fun ts k q vs k2 q2 z => h2 _ _ _ _ _ _ z.1 z.2) (fun ts q z => h1 _ _ z)

mutual
def chkG (Γ : Info) : Gt → Pl → Expr → Bool
  | .name i, p, ex => match ex with
    | .Name x _ => locC p i x
    | _ => false
  | .tup gs, p, ex => match ex with
    | .Tuple es _ _ => decide (es.length = tgN gs) && chkGs Γ gs p es
    | _ => false
  | .ix a b, p, ex => match ex with
    | .Subscript l r _ => notSl r && chkE Γ a p l && chkE Γ b p r
    | _ => false
def chkGs (Γ : Info) : Gts → Pl → List Expr → Bool
  | .nil, _, es => match es with
    | [] => true
    | _ => false
  | .cons g gs, p, es => match es with
    | e :: r => noStar e && chkG Γ g p e && chkGs Γ gs p r
    | [] => false
end
def isLcE : E → Bool
  | .lc _ _ _ _ _ => true
  | _ => false
def isName : Expr → Bool
  | .Name _ _ => true
  | _ => false
/-- a display or the like, of which a new list comes -/
def freshC (p : Pl) : E → Expr → Bool
  | .lst _, .List _ _ => true
  | .bin .mul _ _, .BinOp _ .Mult _ _ => true
  | .bi .list1 (.cons _ .nil), .Call (.Name f _) [_] [] _ => decide (f = "list") && glC p f
  | _, _ => false
mutual
def chkS (Γ : Info) : S → Pl → Stmt → Bool
  | .app a e, p, st => match st with
    | .Expr (.Call (.Attribute (.Name x xp) m apos) [ex] [] cpos) _ => decide (m = "append") && (apos.endLine == cpos.line) && noStar ex && chkE Γ a p (.Name x xp) && chkE Γ e p ex
    | _ => false
  | .asg g e, p, st => match st with
    | .Assign [tg] ex _ => if isLcE e = true then (match g, tg with
        | .name i, .Name x _ => locC p i x && chkE Γ e p ex
        | _, _ => false) else noStar tg && (noLc ex || !isName tg) && swNone p.sc tg ex && chkG Γ g p tg && chkE Γ e p ex
    | _ => false
  | .own i e, p, st => match st with
    | .Assign [.Name x _] ex _ => locC p i x && (if isLcE e = true then chkE Γ e p ex else noLc ex && freshC p e ex && chkE Γ e p ex)
    | _ => false
  | .par2 i j a b, p, st => match st with
    | .Assign [.Tuple [.Name x px, .Name y py] _ _] (.Tuple [ea, eb] _ _) _ => decide (swOut (kdOf p.sc) .function [.Name x px, .Name y py] [ea, eb] = some (some [x, y])) && decide (p.N[i]? = some x) && decide (p.N[j]? = some y) && decide (i ≠ j) &&
        decide (p.sc.names.lookup x = some .local) && decide (p.sc.names.lookup y = some .local) && noStar ea && noStar eb && chkE Γ a p ea && chkE Γ b p eb
    | _ => false
  | .par3 i j l a b c, p, st => match st with
    | .Assign [.Tuple [.Name x px, .Name y py, .Name z pz] _ _] (.Tuple [ea, eb, ec] _ _) _ => decide (swOut (kdOf p.sc) .function [.Name x px, .Name y py, .Name z pz] [ea, eb, ec] = some (some [x, y, z])) && decide (p.N[i]? = some x) && decide (p.N[j]? = some y) && decide (p.N[l]? = some z) && decide (i ≠ j) && decide (i ≠ l) && decide (j ≠ l) &&
        decide (p.sc.names.lookup x = some .local) && decide (p.sc.names.lookup y = some .local) && decide (p.sc.names.lookup z = some .local) && noStar ea && noStar eb && noStar ec && chkE Γ a p ea && chkE Γ b p eb && chkE Γ c p ec
    | _ => false
  | .ret e, p, st => match st with
    | .Return (some ex) _ => chkE Γ e p ex
    | _ => false
  | .retCell as, p, st => match st with
    | .Return (some (.List es q)) q2 => chkEs Γ as p es
    | _ => false
  | .drop e, p, st => match st with
    | .Expr ex _ => noLc ex && chkE Γ e p ex
    | _ => false
  | .sif t a b, p, st => match st with
    | .If et sa sb _ => cmpT t && chkE Γ t p et && chkSs Γ a p sa && chkSs Γ b p sb
    | _ => false
  | .sfor it g b, p, st => match st with
    | .For tg iter body [] _ => chkI Γ it p tg iter && chkP p g tg && chkSs Γ b p body
    | _ => false
  | .swhile t b, p, st => match st with
    | .While et body [] _ => cmpT t && chkE Γ t p et && chkSs Γ b p body
    | _ => false
  | .brk, _, st => match st with
    | .Break _ => true
    | _ => false
  | .cont, _, st => match st with
    | .Continue _ => true
    | _ => false
  | .pass, _, st => match st with
    | .Pass _ => true
    | _ => false
  | .never, _, _ => true
  | .frz _ s, p, st => chkS Γ s p st
def chkSs (Γ : Info) : Ss → Pl → List Stmt → Bool
  | .nil, _, sts => match sts with
    | [] => true
    | _ => false
  | .cons s ss, p, sts => match sts with
    | st :: r => chkS Γ s p st && chkSs Γ ss p r
    | [] => false
end
section
variable {Γ : Info} {G : Env} {k : Nat} {X : Cx} {p : Pl}
theorem At.loc (A : At Γ G k X p) {i : Nat} {x : Str} (h : locC p i x = true) : X.N[i]? = some x ∧ Loc X.env.scope x ∧ (X.fn x = true ∨ X.env.scope.names.lookup x = some .local) := by
  unfold locC at h
  rw [Bool.and_eq_true, decide_eq_true_eq] at h
  obtain ⟨h1, h2⟩ := h
  rw [← A.N] at h1
  rw [← A.sc] at h2
  refine ⟨h1, ?_⟩
  split at h2
  · rename_i e
    exact ⟨.inl e, .inr e⟩
  · rename_i e
    exact ⟨.inr e, .inl (A.fns _ h2)⟩
  · cases h2
mutual
theorem sndg_all : ∀ (g : Gt) (ex : Expr), At Γ G k X p → chkG Γ g p ex = true → SndG G X g ex
  | .name i, ex, A, h => by
    simp only [chkG] at h
    split at h
    · obtain ⟨h1, h2, h3⟩ := A.loc h
      exact sndg_name A.nd h1 h2 h3
    · cases h
  | .tup gs, ex, A, h => by
    simp only [chkG] at h
    split at h
    · simp only [Bool.and_eq_true, decide_eq_true_eq] at h
      obtain ⟨h1, h2⟩ := sndgs_all gs _ A h.2
      exact sndg_tup A.mono A.calm h1 h2 h.1
    · cases h
  | .ix a b, ex, A, h => by
    simp only [chkG] at h
    split at h
    · rename_i l r q
      simp only [Bool.and_eq_true] at h
      refine sndg_ix A.mono (snd_all a X p _ A h.1.2).e (snd_all b X p _ A h.2).e fun v => ?_
      have h0 := h.1.1
      cases r <;> first | rfl | cases h0
    · cases h
theorem sndgs_all : ∀ (gs : Gts) (es : List Expr), At Γ G k X p → chkGs Γ gs p es = true → SndGs G X gs es ∧ es.all noStar = true
  | .nil, es, A, h => by
    simp only [chkGs] at h
    split at h
    · exact ⟨sndgs_nil, rfl⟩
    · cases h
  | .cons g gs, es, A, h => by
    simp only [chkGs] at h
    split at h
    · simp only [Bool.and_eq_true] at h
      obtain ⟨h1, h2⟩ := sndgs_all gs _ A h.2
      exact ⟨sndgs_cons A.mono (sndg_all g _ A h.1.2) h1 h.1.1, by rw [List.all_cons, h.1.1, h2]; rfl⟩
    · cases h
end
/-- the parts of a comprehension, from the checker -/
theorem lc_ok (A : At Γ G k X p) {it : I} {g : Gt} {cond elt : E} {vs : List Nat} {ex : Expr} (h : chkE Γ (.lc it g cond elt vs) p ex = true) :
    ∃ eelt tg iter ifs scope q, ex = .ListComp eelt [⟨tg, iter, ifs, 0⟩] scope q ∧ LcOk G X it g cond elt vs eelt tg iter ifs scope (ownOf p vs) := by
  simp only [chkE] at h
  split at h
  · rename_i eelt tg iter ifs isa scope q
    simp only [Bool.and_eq_true, decide_eq_true_eq] at h
    obtain ⟨⟨⟨⟨⟨⟨h1, h2⟩, h3⟩, h4⟩, h5⟩, h6⟩, h7⟩ := h
    subst h1
    refine ⟨eelt, tg, iter, ifs, scope, q, rfl, ?_, ?_, ?_, ?_, ?_, ?_, ?_, A.calm, A.nd, ?_⟩
    · exact (sndi_all it X p tg iter A h2).1
    · intro i hi
      exact of_decide_eq_true (List.all_eq_true.mp h3 i hi)
    · unfold ownOf
      rw [List.map_map]
      exact (List.map_congr_left fun _ _ => rfl).trans (List.map_id vs)
    · rw [A.N, A.sc]
      exact blkOk_by h4
    · intro s H C cl fp
      exact pg_plain (A.blk scope s H C cl fp).pl h5
    · split at h6
      · split at h6
        · exact .inl ⟨rfl, rfl⟩
        · cases h6
      · rename_i c
        rw [Bool.and_eq_true] at h6
        exact .inr ⟨c, rfl, fun s H C cl fp => (snd_all cond _ _ _ (A.blk scope s H C cl fp) h6.2).t h6.1⟩
      · cases h6
    · intro s H C cl fp
      exact (snd_all elt _ _ _ (A.blk scope s H C cl fp) h7).e
    · exact (sndi_all (st := false) it X p tg iter A h2).2
  · cases h
theorem fresh_ok (A : At Γ G k X p) {e : E} {ex : Expr} (h : freshC p e ex = true) (hc : chkE Γ e p ex = true) : SndF G X e ex := by
  unfold freshC at h
  split at h
  · simp only [chkE] at hc
    exact snd_lstF A.mono ((snds_all _ X p _ A hc).a A.mono)
  · simp only [chkE, Bool.and_eq_true] at hc
    exact snd_repF A.mono (snd_all _ X p _ A hc.1.2).e (snd_all _ X p _ A hc.2).e
  · simp only [Bool.and_eq_true, decide_eq_true_eq] at h
    obtain ⟨h1, h2⟩ := h
    subst h1
    simp only [chkE, chkEs, Bool.and_eq_true] at hc
    exact snd_listF (n := 0) A.mono (A.gl h2).1 (A.blt _ (by decide +kernel)) (snd_all _ X p _ A hc.2.1.2).e hc.2.1.1
  · cases h
end
set_option maxHeartbeats 4000000
mutual
theorem snds_all' {Γ : Info} {G : Env} {k : Nat} {X : Cx} {p : Pl} (A : At Γ G k X p) (hk : p.sc.kind = .function) : ∀ (m : S) (st : Stmt), chkS Γ m p st = true → SndS G X m st
  | .app a e, st, h => by
    simp only [chkS] at h
    split at h
    · simp only [Bool.and_eq_true, decide_eq_true_eq] at h
      obtain ⟨⟨⟨⟨h1, h2⟩, h3⟩, h4⟩, h5⟩ := h
      subst h1
      exact s_app A.mono (snd_all a X p _ A h4).e (snd_all e X p _ A h5).e h3 h2
    · cases h
  | .asg g e, st, h => by
    simp only [chkS] at h
    split at h
    · split at h
      · rename_i hl
        split at h
        · rw [Bool.and_eq_true] at h
          obtain ⟨h1, h2, h3⟩ := A.loc h.1
          cases e with
          | lc it g cond elt vs =>
            obtain ⟨eelt, tg, iter, ifs, scope, q, e1, ok⟩ := lc_ok A h.2
            subst e1
            exact s_asgLc A.mono ok (by rw [A.sc]; exact hk) h1 h2 h3
          | _ => cases hl
        · cases h
      · simp only [Bool.and_eq_true] at h
        obtain ⟨⟨⟨⟨h1, h2⟩, h3⟩, h4⟩, h5⟩ := h
        refine s_asg A.mono (snd_all e X p _ A h5).e (sndg_all g _ A h4) (fun _ k => g_nb (F := ⟨X.K, fun _ => False, fun _ => none, []⟩) (τ := []) (own := fun _ => none) (C := []) (σ := []) (H := fun _ => none) (v := .non) k) ?_ (sw_none A.sc hk h3) h1
        rw [Bool.or_eq_true] at h2
        rcases h2 with h2 | h2
        · exact sole_no h2
        · refine sole_not fun x q z => ?_
          subst z
          cases h2
    · cases h
  | .own i e, st, h => by
    simp only [chkS] at h
    split at h
    · rw [Bool.and_eq_true] at h
      obtain ⟨h0, h⟩ := h
      obtain ⟨h1, h2, h3⟩ := A.loc h0
      split at h
      · rename_i hl
        cases e with
        | lc it g cond elt vs =>
          obtain ⟨eelt, tg, iter, ifs, scope, q, e1, ok⟩ := lc_ok A h
          subst e1
          exact s_ownLc A.mono ok (by rw [A.sc]; exact hk) h1 h2 h3
        | _ => cases hl
      · simp only [Bool.and_eq_true] at h
        exact s_own A.mono (fresh_ok A h.1.2 h.2) h.1.1 A.nd h1 h2 h3
    · cases h
  | .par2 i j a b, st, h => by
    simp only [chkS] at h
    split at h
    · simp only [Bool.and_eq_true, decide_eq_true_eq] at h
      obtain ⟨⟨⟨⟨⟨⟨⟨⟨⟨h1, h2⟩, h3⟩, h4⟩, h5⟩, h6⟩, h7⟩, h8⟩, h9⟩, h10⟩ := h
      have hb : X.env.blockKind = .function := by unfold Env.blockKind; rw [A.sc, hk]; rfl
      have hkd : X.env.kindOf = kdOf p.sc := by
        funext x
        show X.env.scope.names.lookup x = _
        rw [A.sc]
        rfl
      rw [← A.N] at h2 h3
      rw [← A.sc] at h5 h6
      exact s_par2 A.mono (snd_all a X p _ A h9).e (snd_all b X p _ A h10).e h7 h8 A.calm A.nd h2 h3 h4 h5 h6 (sw_out (by rw [hkd, hb]; exact h1))
    · cases h
  | .par3 i j l a b c, st, h => by
    simp only [chkS] at h
    split at h
    · simp only [Bool.and_eq_true, decide_eq_true_eq] at h
      obtain ⟨⟨⟨⟨⟨⟨⟨⟨⟨⟨⟨⟨⟨⟨⟨h1, h2⟩, h3⟩, h4⟩, h5⟩, h6⟩, h7⟩, h8⟩, h9⟩, h10⟩, h11⟩, h12⟩, h13⟩, h14⟩, h15⟩, h16⟩ := h
      have hb : X.env.blockKind = .function := by unfold Env.blockKind; rw [A.sc, hk]; rfl
      have hkd : X.env.kindOf = kdOf p.sc := by
        funext x
        show X.env.scope.names.lookup x = _
        rw [A.sc]
        rfl
      rw [← A.N] at h2 h3 h4
      rw [← A.sc] at h8 h9 h10
      exact s_par3 A.mono (snd_all a X p _ A h14).e (snd_all b X p _ A h15).e (snd_all c X p _ A h16).e h11 h12 h13 A.calm A.nd h2 h3 h4 h5 h6 h7 h8 h9 h10 (sw_out (by rw [hkd, hb]; exact h1))
    · cases h
  | .ret e, st, h => by
    simp only [chkS] at h
    split at h
    · exact s_ret A.mono (snd_all e X p _ A h).e
    · cases h
  | .retCell as, st, h => by
    simp only [chkS] at h
    split at h
    · exact s_retCell A.mono ((snds_all as X p _ A h).a A.mono)
    · cases h
  | .drop e, st, h => by
    simp only [chkS] at h
    split at h
    · rw [Bool.and_eq_true] at h
      exact s_drop A.mono (snd_all e X p _ A h.2).e h.1
    · cases h
  | .sif t a b, st, h => by
    simp only [chkS] at h
    split at h
    · simp only [Bool.and_eq_true] at h
      obtain ⟨⟨⟨h1, h2⟩, h3⟩, h4⟩ := h
      exact s_if A.mono ((snd_all t X p _ A h2).t h1) (sndss_all A hk a _ h3) (sndss_all A hk b _ h4)
    · cases h
  | .sfor it g b, st, h => by
    simp only [chkS] at h
    split at h
    · simp only [Bool.and_eq_true] at h
      obtain ⟨⟨h1, h2⟩, h3⟩ := h
      exact s_for A.mono (sndi_all it X p _ _ A h1).1 (sndi_all (st := true) it X p _ _ A h1).2 (pg_plain A.pl h2) (sndss_all A hk b _ h3) A.calm A.xe
    · cases h
  | .swhile t b, st, h => by
    simp only [chkS] at h
    split at h
    · simp only [Bool.and_eq_true] at h
      obtain ⟨⟨h1, h2⟩, h3⟩ := h
      exact s_while A.mono ((snd_all t X p _ A h2).t h1) (sndss_all A hk b _ h3) A.xe
    · cases h
  | .brk, st, h => by
    simp only [chkS] at h
    split at h
    · exact s_brk
    · cases h
  | .cont, st, h => by
    simp only [chkS] at h
    split at h
    · exact s_cont
    · cases h
  | .pass, st, h => by
    simp only [chkS] at h
    split at h
    · exact s_pass
    · cases h
  | .never, st, h => s_never
  | .frz i s, st, h => by
    simp only [chkS] at h
    exact s_frz (snds_all' A hk s st h)
theorem sndss_all {Γ : Info} {G : Env} {k : Nat} {X : Cx} {p : Pl} (A : At Γ G k X p) (hk : p.sc.kind = .function) : ∀ (m : Ss) (sts : List Stmt), chkSs Γ m p sts = true → SndSs G X m sts
  | .nil, sts, h => by
    simp only [chkSs] at h
    split at h
    · exact snds_nil
    · cases h
  | .cons s ss, sts, h => by
    simp only [chkSs] at h
    split at h
    · rw [Bool.and_eq_true] at h
      exact snds_cons A.mono (snds_all' A hk s _ h.1) (sndss_all A hk ss _ h.2)
    · cases h
end
end Bn

set_option Elab.async false
set_option linter.all false
set_option maxRecDepth 100000
/-! Bn, part 17: all defs of a program keep their promises; the ends of a law. -/
namespace Bn
open PySem PySem.Spec PyProof.Rows L2

/-! ### constants of the module -/
mutual
def cstB (K : PySem.W.Frag) : D → Value → Bool
  | .non, u => (match u with
    | .none => true
    | _ => false)
  | .bl b, u => (match u with
    | .bool c => b == c
    | _ => false)
  | .int i, u => (match u with
    | .int j _ => decide (i = j)
    | _ => false)
  | .str x, u => (match u with
    | .str y _ => decide (x = y)
    | _ => false)
  | .tup ds, u => (match u with
    | .ref a => (match K.lookup a with
      | some ⟨.type c, _, .seq its _, _⟩ => (decide (c = "tuple") && decide (its.size ≤ sizeLine)) && cstsB K ds its.toList
      | _ => false)
    | _ => false)
  | .lst _, _ | .scr _, _ | .cell _, _ | .bor _, _ | .pin _ _, _ => false
def cstsB (K : PySem.W.Frag) : List D → List Value → Bool
  | [], us => us.isEmpty
  | d :: ds, us => (match us with
    | u :: r => cstB K d u && cstsB K ds r
    | [] => false)
end
mutual
theorem cst_ok {K : PySem.W.Frag} : ∀ (d : D) (u : Value), cstB K d u = true → ∃ v, RelV v u ∧ ∀ A C H, Rep K A C H d v
  | .non, u, h => by
    simp only [cstB] at h
    split at h
    · exact ⟨.non, rfl, fun _ _ _ => .non⟩
    · cases h
  | .bl b, u, h => by
    simp only [cstB] at h
    split at h
    · have e := eq_of_beq h
      subst e
      exact ⟨.bl b, rfl, fun _ _ _ => .bl b⟩
    · cases h
  | .int i, u, h => by
    simp only [cstB] at h
    split at h
    · have e := of_decide_eq_true h
      subst e
      exact ⟨.int i, ⟨_, rfl⟩, fun _ _ _ => .int i⟩
    · cases h
  | .str x, u, h => by
    simp only [cstB] at h
    split at h
    · have e := of_decide_eq_true h
      subst e
      exact ⟨.str x, ⟨_, rfl⟩, fun _ _ _ => .str x⟩
    · cases h
  | .tup ds, u, h => by
    simp only [cstB] at h
    split at h
    · rename_i a
      split at h
      · rename_i c dd its n sl e
        simp only [Bool.and_eq_true, decide_eq_true_eq] at h
        obtain ⟨vs, r1, r2⟩ := csts_ok ds its.toList h.2
        refine ⟨.ref a, rfl, fun A C H => .tup (.inr ⟨_, its, n, e, congrArg Value.type h.1.1, rfl, h.1.2, r1⟩) (r2 A C H)⟩
      · cases h
    · cases h
  | .lst _, u, h => by simp [cstB] at h
  | .scr _, u, h => by simp [cstB] at h
  | .cell _, u, h => by simp [cstB] at h
  | .bor _, u, h => by simp [cstB] at h
  | .pin _ _, u, h => by simp [cstB] at h
theorem csts_ok {K : PySem.W.Frag} : ∀ (ds : List D) (us : List Value), cstsB K ds us = true → ∃ vs, Vals vs us ∧ ∀ A C H, Reps K A C H ds vs
  | [], us, h => by
    simp only [cstsB] at h
    cases us with
    | nil => exact ⟨[], .nil, fun _ _ _ => .nil⟩
    | cons _ _ => cases h
  | d :: ds, us, h => by
    cases us with
    | nil => simp [cstsB] at h
    | cons u us =>
      simp only [cstsB, Bool.and_eq_true] at h
      obtain ⟨v, r1, r2⟩ := cst_ok d u h.1
      obtain ⟨vs, r3, r4⟩ := csts_ok ds us h.2
      exact ⟨v :: vs, .cons r1 r3, fun A C H => .cons (r2 A C H) (r4 A C H)⟩
end

/-! ### the defs -/
abbrev Gd (fs : List Fd) (cs : List D) (n : Nat) : Env := ⟨wpC fs cs n, cs⟩
structure DefAt (Γ : Info) (fs : List Fd) (K : PySem.W.Frag) (mg : Str → Option Value) (i : Nat) (nm : Str) (ps : List Str) (f : Addr) (fd : FuncData) : Prop where
  glo : mg nm = some (.ref f)
  bind : ∀ (s : Shared) (us : List Value), us.length = ps.length → BindsTo s fd ⟨us, []⟩ (ps.zip us)
  kw : ∀ (n : Nat) (ks : List Str) (pl : List Nat), (i, n, ks, pl) ∈ Γ.kws → KwB fd ps n ks pl
  ex : ∃ (N : List Str) (m : Fd) (nm2 qual : Str) (params : Arguments) (body : List Stmt) (scope : Scope), FunD K nm2 qual params body scope [] [] f fd ∧ FnScope N ps scope ∧ fs[i]? = some m ∧ m.names = N.length ∧ m.params = ps.length ∧ chkSs Γ m.body ⟨N, scope, fun _ => true⟩ body = true
structure Mood (Γ : Info) (fs : List Fd) (cs : List D) (K : PySem.W.Frag) (mg : Str → Option Value) : Prop where
  defs : ∀ (i : Nat) (nm : Str) (ps : List Str), Γ.fns[i]? = some (nm, ps) → ∃ f fd, DefAt Γ fs K mg i nm ps f fd
  const : ∀ (g : Nat) (nm : Str) (d : D), Γ.consts[g]? = some nm → cs[g]? = some d → ∃ (u : Value) (v : V), mg nm = some u ∧ RelV v u ∧ ∀ A C H, Rep K A C H d v
  blt : ∀ x ∈ ([("int" : Str), "abs", "divmod", "len", "max", "min", "tuple", "list", "all", "any", "sum", "repr", "isinstance", "range", "zip", "enumerate", "bool", "str"] : List Str), mg x = none
  gcd : (("gcd" : Str) ∈ Γ.mth) → mg "gcd" = some (.builtin "math.gcd")
  isq : (("isqrt" : Str) ∈ Γ.mth) → mg "isqrt" = some (.builtin "math.isqrt")
theorem gd_mono {fs : List Fd} {cs : List D} {n : Nat} : (Gd fs cs n).Mono := wpC_mono fs cs n
section
variable {P : Program} {w : World} {K : PySem.W.Frag} {mg : Str → Option Value} {base : Heap} {Γ : Info} {fs : List Fd} {cs : List D}
theorem fund_okG {x qual : Str} {params : Arguments} {body : List Stmt} {scope : Scope} {dvs : List V} {kws : List (Str × V)} {f : Addr} {fd : FuncData} {N ps : List Str} {k : Nat} {sp : SpG} (Fn : FunD K x qual params body scope dvs kws f fd) (Sc : FnScope N ps scope) (len : ∀ vs H Q, sp vs H Q → vs.length = ps.length)
    (hbody : ∀ (cdv : Value) (A : Around) (out : List PySem.Env) (s : Shared) (H : Hp) (vs : List V) (Q : VK), Room k (A.deeper (envOfC qual scope s.heap.objs.size f cdv)) → A.guards = some [] → sp vs H Q →
      ∃ t, PSs (cxOf CX0 P w K mg base N qual scope f cdv A out s H fun _ _ _ => False).nox body t ∧ t { nx := fun _ H' => Q .non H', rt := Q } (start N vs) H) : FnG P w K mg base (k + 1) f fd ps sp := by
  obtain ⟨oc, od, dV, kV, doc, pm, an, cdv, ct, osl, hfd, lk, hcd, _, _⟩ := Fn.ex
  refine ⟨len, fun A out s H ar us vs Q hr hg e0 hb r h => ?_⟩
  have kin : K.In s.heap := e0.mod.kin.keeps fun b o e => (e0.bs b o e).1
  have lim : s.heap.NoLimit := e0.mod.nolimit.keeps fun b o e => (e0.bs b o e).1
  subst hfd
  have kinds : ∀ y ∈ ps.zip us, scope.names.lookup y.1 = some .local ∨ (scope.names.lookup y.1 = some .cell ∧ ((cellsFrom (s.heap.objs.size + 1) scope.names []).lookup y.1).isSome = true) := by
    intro y hy
    rcases Sc.par y.1 (List.of_mem_zip (a := y.1) (b := y.2) hy).1 with q | q
    · exact Or.inl q
    · exact Or.inr ⟨q, PySem.W.cellsFrom_some _ _ _ (Or.inl q)⟩
  refine codeAny_call_function hr.depth (kin _ _ lk) rfl Sc.co Sc.gen rfl (PySem.W.codeRec_of kin hcd) (hb _ _ _ _ (wpAny_newFunctionEnv_cells Sc.kind kinds fun env he s1 ic => ?_))
  subst he
  refine ⟨lim.keeps ic.toInCall.keep, codeAny_func ?_⟩
  obtain ⟨t, ht, hq⟩ := hbody cdv A out s H vs Q (hr.deeper _) hg h
  have J : Inv (cxOf CX0 P w K mg base N qual scope f cdv A out s H fun _ _ _ => False) [] (start N vs) H s1 := inv_start Sc hr.hd e0 (len _ _ _ h) r ic
  refine wpAny_mono (ht.nox.run [] s1 (start N vs) H _ J hq) (fun fl s2 h2 => ?_) fun _ _ h2 => h2
  match fl, h2 with
  | .ret u, ⟨v, σ', H', J', rv, q⟩ => exact ⟨v, H', J'.os, J'.bare, J'.base, J'.hok, rv, q⟩
  | .next, ⟨σ', H', J', q⟩ => exact ⟨V.non, H', J'.os, J'.bare, J'.base, J'.hok, rfl, q⟩
  | .brk, ⟨_, _, _, q⟩ => exact False.elim q
  | .cont, ⟨_, _, _, q⟩ => exact False.elim q

theorem startD_get {n : Nat} {ds : List D} {i : Nat} {d : D} (h : (startD n ds)[i]? = some (.sh d)) : ds[i]? = some d := by
  unfold startD at h
  by_cases c : i < ds.length
  · rw [List.getElem?_append_left (by rw [List.length_map]; exact c), List.getElem?_map] at h
    cases e : ds[i]? with
    | none => rw [e] at h; cases h
    | some x =>
      rw [e] at h
      cases h
      rfl
  · rw [List.getElem?_append_right (by rw [List.length_map]; omega)] at h
    have := List.mem_of_getElem? h
    rw [List.mem_replicate] at this
    cases this.2
theorem startD_ow {n : Nat} {ds : List D} {i : Nat} {xs : List D} (h : (startD n ds)[i]? = some (.ow xs)) : False := by
  have := List.mem_of_getElem? h
  unfold startD at this
  rcases List.mem_append.mp this with z | z
  · obtain ⟨d, _, e⟩ := List.mem_map.mp z
    cases e
  · rw [List.mem_replicate] at z
    cases z.2
/-- the start of a def's body -/
theorem sim_start {A : Addr → Prop} {N : List Str} {C : List Addr} {W : Ce} {H : Hp} {ds : List D} {vs : List V} (hn : ds.length ≤ N.length) (r : Reps K A C H ds vs) (hP : ∀ a, A a → ∃ xs, H a = some (.lst xs)) (c : CellsOk K A C W H) :
    Sim ⟨K, A, H, C⟩ [] (fun _ => none) C (startD N.length ds) W (start N vs) H := by
  have hl := r.length
  have g : Go K A (Av A fun _ => none) C C H H := ⟨Keep.refl _ _, fun a z => .inl (z.elim id fun ⟨_, e⟩ => nomatch e), fun _ _ z => z, fun _ z => .inl z⟩
  refine ⟨fun p hp => absurd hp (by simp), ?_, fun i d e => ?_, fun i xs e => (startD_ow e).elim, fun i j a e => (nomatch e), fun i a e => (nomatch e), ⟨0, fun _ _ => rfl⟩, c.cl, fun k a xs e1 e2 => ?_, c.cn, c.cp, fun _ _ e => e, fun a ha => .inl ha, Keep.refl _ _, fun a ha => ⟨hP a ha, fun z => c.cp a z ha⟩⟩
  · unfold L2.start startD
    simp only [List.length_append, List.length_map, List.length_replicate]
    omega
  · obtain ⟨v, e1, r1⟩ := r.get (startD_get e)
    refine ⟨v, ?_, r1.go g⟩
    unfold L2.start
    have hi : i < vs.length := (List.getElem?_eq_some_iff.mp e1).1
    rw [List.getElem?_append_left (by rw [List.length_map]; exact hi), List.getElem?_map, e1]
    rfl
  · obtain ⟨us, e3, r3⟩ := c.ce k a xs e1 e2
    exact ⟨us, e3, r3.go g⟩
theorem facts_at {n : Nat} {X : Cx} (M : Mood Γ fs cs X.K X.mg) (h : ∀ (i : Nat) (nm : Str) (ps : List Str), Γ.fns[i]? = some (nm, ps) → ∃ f fd, DefAt Γ fs X.K X.mg i nm ps f fd ∧ FnG X.prog X.w X.K X.mg X.base n f fd ps (spF (Gd fs cs n) X.K i))
    (hr : Room n X.A) (hg : X.A.guards = some []) : Facts Γ (Gd fs cs n) n X :=
  ⟨fun i nm ps e => by
    obtain ⟨f, fd, a, b⟩ := h i nm ps e
    obtain ⟨_, _, _, _, _, _, _, F, _⟩ := a.ex
    exact ⟨f, fd, a.glo, F.kp, a.bind, b, a.kw⟩, M.const, M.blt, M.gcd, M.isq, hr, hg, gd_mono⟩
/-- a call's end, from the body's -/
theorem call_end {A : Addr → Prop} {own : Own} {C C' : List Addr} {σd : Sl} {W' : Ce} {σ : L2.St} {H H' : Hp} {d : D} {v : V} {Q : VK} (s : Sim ⟨K, A, H, C⟩ [(d, v)] own C' σd W' σ H') (nb : d.nb = true)
    (k : ∀ v H' C', (∀ (k : Nat) (a : Addr), C[k]? = some a → C'[k]? = some a) → (∀ a ∈ C', a ∈ C ∨ H a = none) → CellsOk K A C' W' H' → Keep (· ∈ C) H H' → Rep K A C' H' d v → Q v H') : Q v H' := by
  have g : Go K (Av A own) A C' C' H' H' := ⟨Keep.refl _ _, fun a z => .inl (.inl z), fun _ _ z => z, fun _ z => .inl z⟩
  refine k v H' C' s.cx s.cnew ⟨s.cl, fun k a xs e1 e2 => ?_, s.cn, s.cp⟩ s.kp ((s.rep1 nb).go g)
  obtain ⟨us, e3, r3⟩ := s.ce k a xs e1 e2
  exact ⟨us, e3, r3.go g⟩
theorem wpC_un {n i : Nat} {ds : List D} {W : Ce} {Q : D → Ce → Prop} {m : Fd} (e : fs[i]? = some m) (k : (Gd fs cs (n + 1)).call i ds W Q) :
    ds.length = m.params ∧ wpSs (Gd fs cs n) m.body (startD m.names ds) W { nx := fun _ W1 => Q .non W1, rt := Q, bk := fun _ _ => False, ct := fun _ _ => False } := by
  change wpC fs cs (n + 1) i ds W Q at k
  simp only [wpC, e] at k
  exact k
theorem defs_ok (M : Mood Γ fs cs K mg) : ∀ (n : Nat) (i : Nat) (nm : Str) (ps : List Str), Γ.fns[i]? = some (nm, ps) → ∃ f fd, DefAt Γ fs K mg i nm ps f fd ∧ FnG P w K mg base n f fd ps (spF (Gd fs cs n) K i)
  | 0, i, nm, ps, e => by
    obtain ⟨f, fd, a⟩ := M.defs i nm ps e
    refine ⟨f, fd, a, ⟨fun vs H Q h => ?_, fun A out s H ar us vs Q hr hg e0 hb r h => ?_⟩⟩
    · obtain ⟨ds, A, C, W, _, _, _, k⟩ := h
      exact k.elim
    · obtain ⟨ds, A, C, W, _, _, _, k⟩ := h
      exact k.elim
  | n + 1, i, nm, ps, e => by
    obtain ⟨f, fd, a⟩ := M.defs i nm ps e
    obtain ⟨N, m, nm2, qual, params, body, scope, F, Sc, e1, e2, e3, ck⟩ := a.ex
    refine ⟨f, fd, a, fund_okG F Sc (fun vs H Q h => ?_) fun cdv A out s H vs Q hr hg h => ?_⟩
    · obtain ⟨ds, A, C, W, r, _, _, k⟩ := h
      replace k := wpC_un e1 k
      rw [← r.length, k.1, e3]
    · obtain ⟨ds, P', C, W, r, hP, c, k⟩ := h
      replace k := wpC_un e1 k
      obtain ⟨k1, k2⟩ := k
      have hpl : ps.length ≤ N.length := by have := congrArg List.length Sc.pre; rw [List.length_take] at this; omega
      rw [e2] at k2
      have s0 := sim_start (N := N) (by omega) r hP c
      refine ⟨_, bSs_ok, ?_⟩
      have FX : Facts Γ (Gd fs cs n) n (cxOf CX0 P w K mg base N qual scope f cdv A out s H fun _ _ _ => False).nox := facts_at M (defs_ok M n) hr (guards_deeper _ _ hg)
      have AX : At Γ (Gd fs cs n) n (cxOf CX0 P w K mg base N qual scope f cdv A out s H fun _ _ _ => False).nox ⟨N, scope, fun _ => true⟩ := { FX with N := rfl, sc := rfl, fns := fun _ _ => rfl, nd := Sc.nd, calm := rfl, xe := rfl }
      refine sndss_all AX Sc.kind m.body body ck (F := ⟨K, P', H, C⟩) rfl (fun p hp => absurd hp (by simp)) s0 (wpSs_mono gd_mono m.body ⟨fun σd' W' k own C' σ' H' s1 => ?_, fun d W' k v own C' σd' σ' H' nb s1 => ?_, fun _ _ z => False.elim z, fun _ _ z => False.elim z⟩ k2)
      · exact call_end (s1.push (d := .non) (.inl .non)) rfl k
      · exact call_end s1 nb k
end
end Bn

set_option Elab.async false
set_option linter.all false
set_option maxRecDepth 100000
set_option maxHeartbeats 2000000
/-! Bn, part 18: the end of a law. -/
namespace Bn
open PySem PySem.Spec PyProof.Rows L2

/-! ### the call of the law at a script -/
theorem top_go {P : Program} {w : World} {K : PySem.W.Frag} {mg mb : Str → Option Value} {k : Nat} {fa a : Addr} {fd : FuncData} {x : Str} {sp : SpG} {t : Shared} {vs : List Value} {ns : List Int}
    (KX : K.In t.heap) (gm : t.heap.Ns mainGlobals mg) (gb : t.heap.Ns builtinsNs mb) (bb : ∀ x : Str, x ≠ "__name__" → mb x = bootBuiltins x) (nl : t.heap.NoLimit) (ng : t.gens = #[])
    (ha : t.heap.get? a = some { cls := .type "list", data := .seq vs.toArray }) (hi : IntsAre vs ns) (hl : ns.length ≤ sizeLine) (hr : Room k callerA)
    (F : ∀ b : Heap, K.In b → b.Ns mainGlobals mg → FnG P w K mg b k fa fd [x] sp) (bd : ∀ (s : Shared) (u : Value), BindsTo s fd ⟨[u], []⟩ [(x, u)])
    (hsp : ∀ H : Hp, SqK K H a (ns.map V.int) → sp [.ref a] H fun v _ => v = .bl true) :
    codeAny (model P w) callerA (.call (.ref fa) ⟨[.ref a], []⟩) (fun r s' => r = .ok (.ret (.bool true)) ∧ OldK t.heap s'.heap ∧ s'.os = t.os ∧ AllBare s'.gens) t := by
  have lv := hi.length
  have main : ∀ H : Hp, Only H → SqK K H a (ns.map V.int) → HOk P w H t.heap → (∀ b, H b ≠ none → b = a) → (H a ≠ none → K.lookup a = none) →
      codeAny (model P w) callerA (.call (.ref fa) ⟨[.ref a], []⟩) (fun r s' => r = .ok (.ret (.bool true)) ∧ OldK t.heap s'.heap ∧ s'.os = t.os ∧ AllBare s'.gens) t := by
    intro H on sq ok only away
    have seen : ∀ {b : Addr} {o : Obj}, t.heap.get? b = some o → H b = none → (hidT t.heap H).get? b = some o := fun e n => hidT_get e n
    have undict : ∀ {b : Addr} {o : Obj} {es : Array DictEntry} {m : Nat}, t.heap.get? b = some o → o.data = .dict es m → H b = none := by
      intro b o es m e d
      cases q : H b with
      | none => rfl
      | some u =>
        have z := only b (by rw [q]; exact fun z => nomatch z)
        subst z
        rw [ha] at e
        cases e
        exact absurd d (fun z => nomatch z)
    have keepNs : ∀ {b : Addr} {m : Str → Option Value}, t.heap.Ns b m → (hidT t.heap H).Ns b m := fun ⟨o, es, n, e, d, r⟩ => ⟨o, es, n, seen e (undict e d), d, r⟩
    have KB : K.In (hidT t.heap H) := by
      intro b o e
      refine seen (KX b o e) ?_
      cases q : H b with
      | none => rfl
      | some u =>
        have z := only b (by rw [q]; exact fun z => nomatch z)
        subst z
        rw [away (by rw [q]; exact fun z => nomatch z)] at e
        cases e
    have MD : Mod K mg (hidT t.heap H) := by
      obtain ⟨mc, n1, n2⟩ := nl
      exact ⟨KB, keepNs gm, ⟨mb, keepNs gb, bb⟩, ⟨mc, keepNs n1, n2⟩⟩
    have e0 : Env0 P w K mg (hidT t.heap H) callerA [] t H := ⟨rfl, MD, fun b o e => of_hidT e, Nat.le_of_eq (hidT_size _ _), trivial, fun b hb => absurd (show b ∈ ([] : List Addr) from hb) (by simp), ok, .of_eq ng⟩
    refine codeAny_mono ((F _ KB (keepNs gm)).go callerA [] t H ⟨[.ref a], []⟩ [.ref a] [.ref a] _ hr rfl e0 (bd t (.ref a)) (.cons rfl .nil) (hsp H sq)) fun r s' h => ?_
    match r, h with
    | .error e, z => exact False.elim z
    | .ok .next, z => exact False.elim z
    | .ok .brk, z => exact False.elim z
    | .ok .cont, z => exact False.elim z
    | .ok (.ret u), ⟨v, H', os, bare, un, ok', r', q⟩ =>
      have q' : v = .bl true := q
      subst q'
      obtain rfl : u = Value.bool true := r'
      refine ⟨rfl, OldK.of_keep fun b o e => ?_, os, bare⟩
      cases q : H b with
      | none => exact un.keep b o e q (by intro z; exact absurd (show b ∈ ([] : List Addr) from z) (by simp)) (by simp)
      | some u =>
        rcases on b with z | ⟨ob, xs, z⟩
        · rw [q] at z
          cases z
        · obtain ⟨e1, _⟩ := ok b _ z
          obtain ⟨e2, _⟩ := ok' b _ (un.frzs b ob _ z)
          rw [e] at e1
          cases e1
          exact e2
  cases hk : K.lookup a with
  | some o =>
    have e := KX a o hk
    rw [ha] at e
    cases e
    exact main (fun _ => none) (fun _ => .inl rfl) (.inr ⟨_, vs.toArray, _, hk, rfl, rfl, rfl, by rw [List.size_toArray, lv]; exact hl, by simpa using vals_ints hi⟩) (fun _ _ z => nomatch (show (none : Option HO) = some _ from z)) (fun _ z => absurd rfl z) (fun z => absurd rfl z)
  | none =>
    have at_ : ∀ b, (if b = a then some (HO.frz { cls := .type "list", data := .seq vs.toArray } (.lst (ns.map V.int))) else none) ≠ none → b = a := fun b z => by
      by_cases hb : b = a
      · exact hb
      · rw [if_neg hb] at z
        exact absurd rfl z
    refine main (fun b => if b = a then some (.frz { cls := .type "list", data := .seq vs.toArray } (.lst (ns.map V.int))) else none) (fun b => ?_) (.inl ⟨_, if_pos rfl⟩) (fun b u z => ?_) at_ fun _ => hk
    · by_cases hb : b = a
      · exact .inr ⟨_, _, if_pos hb⟩
      · exact .inl (if_neg hb)
    · have hb : b = a := at_ b (by
        have z' : (if b = a then some (HO.frz { cls := .type "list", data := .seq vs.toArray } (.lst (ns.map V.int))) else none) = some u := z
        rw [z']
        exact fun y => nomatch y)
      have z' := (if_pos hb).symm.trans z
      cases z'
      subst hb
      exact ⟨ha, by rw [List.length_map]; exact hl, vs, _, vals_ints hi, ha⟩
theorem walkG {l : PySem.W.OpenLaw} {n k : Nat} {q : Program} {loose : List Str} {XP : (Str → Option Value) → Heap → Prop} {YP : World → Heap → Prop} {d : DefRec} {x : Str} (hn : l.most = some n) (hn2 : n ≤ sizeLine) (hdf : d.params.defaults = []) (hr : Room k callerA)
    (F : ∀ (w : World) (mg : Str → Option Value) (fa : Addr) (h : Heap), YP w h → h.Ns mainGlobals mg → mg d.name = some (.ref fa) → ∃ (K : PySem.W.Frag) (fd : FuncData) (sp : SpG), K.In h ∧ (∀ (s : Shared) (u : Value), BindsTo s fd ⟨[u], []⟩ [(x, u)]) ∧
      (∀ (H : Hp) (a : Addr) (ns : List Int), ns.length ≤ n → SqK K H a (ns.map V.int) → sp [.ref a] H fun v _ => v = .bl true) ∧ ∀ b : Heap, K.In b → b.Ns mainGlobals mg → FnG l.prog w K mg b k fa fd [x] sp) :
    PySem.W.WalkO q loose XP YP l.row.toRowW d [] (fun f vs => PySem.call f vs) := by
  refine Att.attach_call hn hdf fun w s₀ t mg mb fa o pm cd doc a vs ns G Y ho hd hcd hmg hobj hints hlen ng => ?_
  obtain ⟨K, fd, sp, KX, bd, hsp, hF⟩ := F w mg fa _ Y G.T.g hmg
  exact top_go KX G.T.g G.T.b G.T.builtins G.T.nolimit ng hobj hints (Nat.le_trans hlen hn2) hr hF bd fun H hS => hsp H a ns hlen hS

/-! ### what the top leaves, read by one run -/
def bltL : List Str := [("int" : Str), "abs", "divmod", "len", "max", "min", "tuple", "list", "all", "any", "sum", "repr", "isinstance", "range", "zip", "enumerate", "bool", "str"]
def isB (K : PySem.W.Frag) (x : Str) (b : String) : Bool := decide (PySem.W.nsIn K mainGlobals x = some (some (.builtin b)))
def ckB (Γ : Info) (cs : List D) (K : PySem.W.Frag) : Bool := (Γ.fns.all fun p => (He.Fa.glo p.1).ok K) && (bltL.all fun x => (He.Fa.free x).ok K) && (!decide (("gcd" : Str) ∈ Γ.mth) || isB K "gcd" "math.gcd") && (!decide (("isqrt" : Str) ∈ Γ.mth) || isB K "isqrt" "math.isqrt") &&
  (Γ.consts.zip cs).all fun p => (match PySem.W.nsIn K mainGlobals p.1 with
    | some (some u) => cstB K p.2 u
    | _ => false)
abbrev AlB : Type := Bool × List He.FnW
def seesB (ck : PySem.W.Frag → Bool) (fn : List He.DefD) (K : PySem.W.Frag) : AlB := (ck K && fn.all fun d => d.ok K, fn.map fun d => He.fnW K d.at_)
def wantB (fn : List He.DefD) : AlB := (true, fn.map He.DefD.val)
def obB (n : Nat) (ck : PySem.W.Frag → Bool) (fn : List He.DefD) (g : Addr → Option Obj) : AlB := seesB ck fn (He.frG g (He.asG g n))
def hookB (n : Nat) (ck : PySem.W.Frag → Bool) (fn : List He.DefD) : PySem.W.Hook where
  α := AlB
  obs := fun s => obB n ck fn s.heap.get?
  val := fun _ => wantB fn
  says := fun _ h => ∃ K : PySem.W.Frag, K.In h ∧ seesB ck fn K = wantB fn
  of := fun _ _ e => ⟨_, He.frG_in, e⟩
  keeps := fun _ _ _ ⟨K, hK, c⟩ k => ⟨K, PySem.W.Frag.In.keeps hK k, c⟩
theorem obB_eq {n : Nat} {ck : PySem.W.Frag → Bool} {fn : List He.DefD} (s : PySem.W.SharedT) : obB n ck fn (HandSHeadRun.getT s) = (hookB n ck fn).obs s.abs := by
  have e : HandSHeadRun.getT s = s.abs.heap.get? := funext (HandSHeadRun.getT_eq s)
  rw [e]
  rfl

/-- what is to be shown of a def's text -/
structure DefSpec (Γ : Info) (fs : List Fd) (i : Nat) (nm : Str) (ps : List Str) (d : He.DefD) : Prop where
  at_ : d.at_ = (nm, none)
  dfl : d.dfl = []
  kwd : d.kwd = []
  bnd : ∀ (kV doc pm : Value) (an : Option Addr) (cdv ct : Value) (us : List Value), us.length = ps.length → bindArgs (PySem.W.fnOf d.name d.qual d.params d.body d.scope .none kV doc pm an cdv ct) ⟨us, []⟩ = pure (ps.zip us)
  kwb : ∀ p ∈ Γ.kws, p.1 = i → ∀ (kV doc pm : Value) (an : Option Addr) (cdv ct : Value) (us ws : List Value), us.length = p.2.1 → ws.length = p.2.2.1.length →
    bindArgs (PySem.W.fnOf d.name d.qual d.params d.body d.scope .none kV doc pm an cdv ct) ⟨us, p.2.2.1.zip ws⟩ = pure (ps.zip (permV p.2.2.2 (us ++ ws)))
  tx : ∃ (N : List Str) (m : Fd), FnScope N ps d.scope ∧ fs[i]? = some m ∧ m.names = N.length ∧ m.params = ps.length ∧ chkSs Γ m.body ⟨N, d.scope, fun _ => true⟩ d.body = true
section
variable {Γ : Info} {fs : List Fd} {cs : List D} {K : PySem.W.Frag} {mg : Str → Option Value} {h : Heap} {ds : List He.DefD}
theorem mood_of (X : K.In h) (G : h.Ns mainGlobals mg) (c : seesB (ckB Γ cs) ds K = wantB ds) (S : ∀ (i : Nat) (nm : Str) (ps : List Str), Γ.fns[i]? = some (nm, ps) → ∃ d, ds[i]? = some d ∧ DefSpec Γ fs i nm ps d) : Mood Γ fs cs K mg := by
  have c1 : (ckB Γ cs K && ds.all fun d => d.ok K) = true := congrArg (fun z : AlB => z.1) c
  have c2 : ds.map (fun d => He.fnW K d.at_) = ds.map He.DefD.val := congrArg (fun z : AlB => z.2) c
  rw [Bool.and_eq_true] at c1
  obtain ⟨c0, c1⟩ := c1
  unfold ckB at c0
  simp only [Bool.and_eq_true] at c0
  obtain ⟨⟨⟨⟨k1, k2⟩, k3⟩, k4⟩, k5⟩ := c0
  refine ⟨fun i nm ps e => ?_, fun g nm d e1 e2 => ?_, fun x hx => ?_, fun z => ?_, fun z => ?_⟩
  · obtain ⟨d, hd, sp⟩ := S i nm ps e
    have e3 : (ds.map fun d => He.fnW K d.at_)[i]? = (ds.map He.DefD.val)[i]? := by rw [c2]
    rw [List.getElem?_map, List.getElem?_map, hd] at e3
    obtain ⟨fd, F⟩ := He.DefD.funD (Option.some.inj e3) (List.all_eq_true.mp c1 d (List.mem_of_getElem? hd))
    have gl := List.all_eq_true.mp k1 _ (List.mem_of_getElem? e)
    have dv : d.dvs K = [] := by unfold He.DefD.dvs; rw [sp.dfl]; rfl
    have kv : d.kws K = [] := by unfold He.DefD.kws; rw [sp.kwd]; rfl
    have ad : He.fAd K d.at_ = He.ga K nm := by rw [sp.at_]; rfl
    rw [dv, kv, ad] at F
    obtain ⟨N, m, t1, t2, t3, t4, t5⟩ := sp.tx
    refine ⟨He.ga K nm, fd, He.glo_ok X G gl, fun s us hl => FunD.bindsA F sp.bnd s us hl, fun n ks pl hm s us ws h1 h2 => ?_, ⟨N, m, _, _, _, _, _, F, t1, t2, t3, t4, t5⟩⟩
    obtain ⟨oc, od, dV, kV, doc, pm, an, cdv, ct, osl, rfl, lk, hcd, hD, hK⟩ := F.ex
    rcases hD with ⟨_, rfl⟩ | ⟨z, _⟩
    · exact .of_eq (sp.kwb _ hm rfl kV doc pm an cdv ct us ws h1 h2)
    · exact absurd rfl z
  · have z := List.all_eq_true.mp k5 (nm, d) (List.mem_of_getElem? (i := g) (by rw [List.getElem?_zip_eq_some]; exact ⟨e1, e2⟩))
    dsimp only at z
    split at z
    · rename_i u eu
      obtain ⟨v, r1, r2⟩ := cst_ok d u z
      exact ⟨u, v, PySem.W.mg_of X G eu, r1, r2⟩
    · cases z
  · exact He.free_ok X G (List.all_eq_true.mp k2 x hx)
  · rw [decide_eq_true z] at k3
    exact PySem.W.mg_of X G (of_decide_eq_true k3)
  · rw [decide_eq_true z] at k4
    exact PySem.W.mg_of X G (of_decide_eq_true k4)
/-- the law's own promise at a script -/
theorem law_sp {n i : Nat} {H : Hp} {a : Addr} {ns : List Int} (hS : SqK K H a (ns.map V.int)) (h : wpC fs cs n i [.scr ns] [] fun d _ => d = .bl true) : spF (Gd fs cs n) K i [.ref a] H fun v _ => v = .bl true := by
  refine ⟨[.scr ns], fun _ => False, [], [], .cons (.scr hS) .nil, fun _ z => z.elim, ⟨rfl, fun k a ds e _ => (by simp at e), List.nodup_nil, fun _ z => absurd z (by simp)⟩, ?_⟩
  refine (wpC_mono fs cs n).call i _ _ _ _ (fun d W1 e v H' C' _ _ _ _ r => ?_) h
  subst e
  cases r
  rfl
/-- all in one -/
theorem law_walk {l : PySem.W.OpenLaw} {n k i j : Nat} {q : Program} {loose : List Str} {XP : (Str → Option Value) → Heap → Prop} {d : DefRec} {x : Str} (hn : l.most = some n) (hn2 : n ≤ sizeLine) (hdf : d.params.defaults = []) (hr : Room k callerA)
    (S : ∀ (i : Nat) (nm : Str) (ps : List Str), Γ.fns[i]? = some (nm, ps) → ∃ d, ds[i]? = some d ∧ DefSpec Γ fs i nm ps d) (hi : Γ.fns[i]? = some (d.name, [x])) (pure : ∀ ns : List Int, ns.length ≤ n → wpC fs cs k i [.scr ns] [] fun d _ => d = .bl true) :
    PySem.W.WalkO q loose XP (hookB j (ckB Γ cs) ds).says l.row.toRowW d [] (fun f vs => PySem.call f vs) := by
  refine walkG (x := x) (k := k) hn hn2 hdf hr fun w mg fa h Y G hmg => ?_
  obtain ⟨K, KX, c⟩ := Y
  have M : Mood Γ fs cs K mg := mood_of KX G c S
  obtain ⟨f, fd, a⟩ := M.defs i d.name [x] hi
  have e := a.glo.symm.trans hmg
  cases e
  refine ⟨K, fd, spF (Gd fs cs k) K i, KX, fun s u => a.bind s [u] rfl, fun H b ns hl hS => law_sp hS (pure ns hl), fun b _ _ => ?_⟩
  obtain ⟨f', fd', a', g⟩ := defs_ok (P := l.prog) (w := w) (base := b) M k i d.name [x] hi
  have e' := a.glo.symm.trans a'.glo
  cases e'
  have ed : fd = fd' := by
    obtain ⟨_, _, _, _, _, _, _, F, _⟩ := a.ex
    obtain ⟨_, _, _, _, _, _, _, F', _⟩ := a'.ex
    obtain ⟨_, _, _, _, _, _, _, _, _, _, _, l1, _⟩ := F.ex
    obtain ⟨_, _, _, _, _, _, _, _, _, _, _, l2, _⟩ := F'.ex
    rw [l1] at l2
    cases l2
    rfl
  subst ed
  exact g
end
end Bn

set_option Elab.async false
set_option linter.all false
set_option maxRecDepth 100000
/-! Bn, part 19: fractions; what the common helpers do. -/
namespace Bn
open PySem L2
theorem view_int {σ : Sl} {W : Ce} {i : Int} : view σ W (.int i) = .int i := rfl
theorem view_tup {σ : Sl} {W : Ce} {xs : List D} : view σ W (.tup xs) = .tup xs := rfl
theorem view_lst {σ : Sl} {W : Ce} {xs : List D} : view σ W (.lst xs) = .lst xs := rfl
theorem view_scr {σ : Sl} {W : Ce} {xs : List Int} : view σ W (.scr xs) = .scr xs := rfl
theorem view_bl {σ : Sl} {W : Ce} {i : Bool} : view σ W (.bl i) = .bl i := rfl
theorem view_str {σ : Sl} {W : Ce} {i : Str} : view σ W (.str i) = .str i := rfl
theorem view_non {σ : Sl} {W : Ce} : view σ W .non = .non := rfl
theorem nb_int {i : Int} : (D.int i).nb = true := rfl
theorem nb_tup {xs : List D} : (D.tup xs).nb = true := rfl
theorem nb_lst {xs : List D} : (D.lst xs).nb = true := rfl
theorem nb_scr {xs : List Int} : (D.scr xs).nb = true := rfl
theorem nb_bl {i : Bool} : (D.bl i).nb = true := rfl
theorem nb_str {i : Str} : (D.str i).nb = true := rfl
theorem nb_cell {i : Nat} : (D.cell i).nb = true := rfl
theorem nb_non : D.non.nb = true := rfl
theorem ixN_nat {n k : Nat} (h : k < n) : ixN n (k : Int) = some k := by
  unfold ixN
  rw [if_pos (by omega), if_pos (by omega)]
  rfl
theorem ix0 {n : Nat} : ixN (n + 1) 0 = some 0 := ixN_nat (k := 0) (by omega)
theorem ix1 {n : Nat} : ixN (n + 1 + 1) 1 = some 1 := ixN_nat (k := 1) (by omega)
theorem ix2 {n : Nat} : ixN (n + 1 + 1 + 1) 2 = some 2 := ixN_nat (k := 2) (by omega)
theorem atI_nat {α : Type} {l : List α} {k : Nat} (h : k < l.length) : atI l (k : Int) = l[k]? := by
  unfold atI
  rw [ixN_nat h]
  rfl
theorem at0 {α : Type} {a : α} {l : List α} : atI (a :: l) 0 = some a := atI_nat (k := 0) (by simp)
theorem at1 {α : Type} {a b : α} {l : List α} : atI (a :: b :: l) 1 = some b := atI_nat (k := 1) (by simp)
theorem at2 {α : Type} {a b c : α} {l : List α} : atI (a :: b :: c :: l) 2 = some c := atI_nat (k := 2) (by simp)
theorem at3 {α : Type} {a b c d : α} {l : List α} : atI (a :: b :: c :: d :: l) 3 = some d := atI_nat (k := 3) (by simp)
theorem sIx21 : HT.sIx 2 2 (some 1) = 1 := rfl
theorem zeroNat : (0 : Nat) = 0 ↔ True := by simp

section
variable {fs : List Fd} {cs : List D} {n i : Nat} {ds : List D} {W : Ce} {Q : D → Ce → Prop}
theorem wpC_step {f : Fd} (e : fs[i]? = some f) (h : ds.length = f.params) (k : wpSs ⟨wpC fs cs n, cs⟩ f.body (startD f.names ds) W { nx := fun _ W1 => Q .non W1, rt := Q, bk := fun _ _ => False, ct := fun _ _ => False }) : wpC fs cs (n + 1) i ds W Q := by
  simp only [wpC, e]
  exact ⟨h, k⟩
theorem wpC_imp {Q' : D → Ce → Prop} (h : wpC fs cs n i ds W Q) (k : ∀ d W1, Q d W1 → Q' d W1) : wpC fs cs n i ds W Q' := (wpC_mono fs cs n).call i ds W _ _ k h
end

/-! ### the operations, case by case -/
theorem b_add {i j : Int} {Q : D → Prop} : binD .add (.int i) (.int j) Q = Q (.int (i + j)) := rfl
theorem b_addT {xs ys : List D} {Q : D → Prop} : binD .add (.tup xs) (.tup ys) Q = (xs.length + ys.length ≤ sizeLine ∧ Q (.tup (xs ++ ys))) := rfl
theorem b_addL {xs ys : List D} {Q : D → Prop} : binD .add (.lst xs) (.lst ys) Q = (xs.length + ys.length ≤ sizeLine ∧ Q (.lst (xs ++ ys))) := rfl
theorem b_sub {i j : Int} {Q : D → Prop} : binD .sub (.int i) (.int j) Q = Q (.int (i - j)) := rfl
theorem b_mul {i j : Int} {Q : D → Prop} : binD .mul (.int i) (.int j) Q = (CMulX i j ∧ Q (.int (i * j))) := rfl
theorem b_mulL {xs : List D} {k : Int} {Q : D → Prop} : binD .mul (.lst xs) (.int k) Q = ((-(2 ^ 63) ≤ k ∧ k < 2 ^ 63 ∧ xs.length * k.toNat ≤ sizeLine) ∧ Q (.lst (List.replicate k.toNat xs).flatten)) := rfl
theorem b_mulT {xs : List D} {k : Int} {Q : D → Prop} : binD .mul (.tup xs) (.int k) Q = ((xs ≠ [] ∧ 2 ≤ k ∧ k ≤ 1000 ∧ xs.length ≤ 1000) ∧ Q (.tup (List.replicate k.toNat xs).flatten)) := rfl
theorem b_fdiv {i j : Int} {Q : D → Prop} : binD .fdiv (.int i) (.int j) Q = ((j ≠ 0 ∧ j.natAbs.log2 < 9000) ∧ Q (.int (i.fdiv j))) := rfl
theorem b_mod {i j : Int} {Q : D → Prop} : binD .mod (.int i) (.int j) Q = (j ≠ 0 ∧ Q (.int (i.fmod j))) := rfl
theorem b_pow {i j : Int} {Q : D → Prop} : binD .pow (.int i) (.int j) Q = (CPow i j ∧ Q (.int (i ^ j.toNat))) := rfl
theorem c_lt {i j : Int} {Q : Bool → Prop} : cmpD .lt (.int i) (.int j) Q = Q (decide (i < j)) := rfl
theorem c_le {i j : Int} {Q : Bool → Prop} : cmpD .le (.int i) (.int j) Q = Q (decide (i ≤ j)) := rfl
theorem c_gt {i j : Int} {Q : Bool → Prop} : cmpD .gt (.int i) (.int j) Q = Q (decide (j < i)) := rfl
theorem c_ge {i j : Int} {Q : Bool → Prop} : cmpD .ge (.int i) (.int j) Q = Q (decide (j ≤ i)) := rfl
theorem c_eq {i j : Int} {Q : Bool → Prop} : cmpD .eq (.int i) (.int j) Q = Q (decide (i = j)) := rfl
theorem c_ne {i j : Int} {Q : Bool → Prop} : cmpD .ne (.int i) (.int j) Q = Q (!decide (i = j)) := rfl
theorem c_eqS {i j : Str} {Q : Bool → Prop} : cmpD .eq (.str i) (.str j) Q = Q (decide (i = j)) := rfl
theorem c_neS {i j : Str} {Q : Bool → Prop} : cmpD .ne (.str i) (.str j) Q = Q (!decide (i = j)) := rfl
theorem c_eq_tup {x y : List D} {Q : Bool → Prop} : cmpD .eq (.tup x) (.tup y) Q = (eqOk (.tup x) (.tup y) = true ∧ Q (eqD (.tup x) (.tup y))) := rfl
theorem c_ne_tup {x y : List D} {Q : Bool → Prop} : cmpD .ne (.tup x) (.tup y) Q = (eqOk (.tup x) (.tup y) = true ∧ Q (!eqD (.tup x) (.tup y))) := rfl
theorem c_eq_lst {x y : List D} {Q : Bool → Prop} : cmpD .eq (.lst x) (.lst y) Q = (eqOk (.lst x) (.lst y) = true ∧ Q (eqD (.lst x) (.lst y))) := rfl
theorem c_ne_lst {x y : List D} {Q : Bool → Prop} : cmpD .ne (.lst x) (.lst y) Q = (eqOk (.lst x) (.lst y) = true ∧ Q (!eqD (.lst x) (.lst y))) := rfl
theorem c_eq_bl {x y : Bool} {Q : Bool → Prop} : cmpD .eq (.bl x) (.bl y) Q = (eqOk (.bl x) (.bl y) = true ∧ Q (eqD (.bl x) (.bl y))) := rfl
theorem c_ne_bl {x y : Bool} {Q : Bool → Prop} : cmpD .ne (.bl x) (.bl y) Q = (eqOk (.bl x) (.bl y) = true ∧ Q (!eqD (.bl x) (.bl y))) := rfl
theorem c_inT {x : D} {ys : List D} {Q : Bool → Prop} : cmpD .isIn x (.tup ys) Q = ((flatD x && ys.all flatD) = true ∧ Q (inV x.fv (ys.map D.fv))) := rfl
theorem c_ninT {x : D} {ys : List D} {Q : Bool → Prop} : cmpD .notIn x (.tup ys) Q = ((flatD x && ys.all flatD) = true ∧ Q (!inV x.fv (ys.map D.fv))) := rfl
theorem i_int {i : Int} {Q : D → Prop} : biD .int1 [.int i] Q = Q (.int i) := rfl
theorem i_intB {k : Bool} {Q : D → Prop} : biD .int1 [.bl k] Q = Q (.int (if k then 1 else 0)) := rfl
theorem i_abs {i : Int} {Q : D → Prop} : biD .abs [.int i] Q = Q (.int (if i < 0 then -i else i)) := rfl
theorem i_dm {i j : Int} {Q : D → Prop} : biD .divmod [.int i, .int j] Q = ((0 < j ∧ j < 1073741824) ∧ Q (.tup [.int (i / j), .int (i % j)])) := rfl
theorem i_len_tup {xs : List D} {Q : D → Prop} : biD .len [.tup xs] Q = Q (.int xs.length) := rfl
theorem i_len_lst {xs : List D} {Q : D → Prop} : biD .len [.lst xs] Q = Q (.int xs.length) := rfl
theorem i_len_scr {xs : List Int} {Q : D → Prop} : biD .len [.scr xs] Q = Q (.int xs.length) := rfl
theorem i_max {i j : Int} {Q : D → Prop} : biD .max2 [.int i, .int j] Q = Q (.int (if j > i then j else i)) := rfl
theorem i_min {i j : Int} {Q : D → Prop} : biD .min2 [.int i, .int j] Q = Q (.int (if j < i then j else i)) := rfl
theorem i_gcd {i j : Int} {Q : D → Prop} : biD .gcd [.int i, .int j] Q = Q (.int ((Nat.gcd i.natAbs j.natAbs : Nat) : Int)) := rfl
theorem i_isqrt {i : Int} {Q : D → Prop} : biD .isqrt [.int i] Q = ((0 ≤ i ∧ i.toNat.log2 < 13000) ∧ Q (.int ((Float64.isqrt i.toNat : Nat) : Int))) := rfl
theorem i_tuple1_tup {xs : List D} {Q : D → Prop} : biD .tuple1 [.tup xs] Q = Q (.tup xs) := rfl
theorem i_tuple1_lst {xs : List D} {Q : D → Prop} : biD .tuple1 [.lst xs] Q = Q (.tup xs) := rfl
theorem i_list1_tup {xs : List D} {Q : D → Prop} : biD .list1 [.tup xs] Q = Q (.lst xs) := rfl
theorem i_list1_lst {xs : List D} {Q : D → Prop} : biD .list1 [.lst xs] Q = Q (.lst xs) := rfl
theorem i_all {xs : List D} {Q : D → Prop} : biD .all1 [.lst xs] Q = (match allBl xs with
  | some bs => Q (.bl (bs.all id))
  | none => False) := rfl
theorem i_any {xs : List D} {Q : D → Prop} : biD .any1 [.lst xs] Q = (match allBl xs with
  | some bs => Q (.bl (bs.any id))
  | none => False) := rfl
theorem i_sum {xs : List D} {Q : D → Prop} : biD .sum1 [.lst xs] Q = (match allInt xs with
  | some ns => Q (.int ns.sum)
  | none => False) := rfl
theorem i_repr_tup {x : List D} {Q : D → Prop} : biD .repr1 [.tup x] Q = (((D.tup x).plain = true ∧ (D.tup x).py.showable = true ∧ (D.tup x).py.depth ≤ 60 ∧ (D.tup x).py.shown.length ≤ sizeLine) ∧ Q (.str (D.tup x).py.shown)) := rfl
theorem i_repr_lst {x : List D} {Q : D → Prop} : biD .repr1 [.lst x] Q = (((D.lst x).plain = true ∧ (D.lst x).py.showable = true ∧ (D.lst x).py.depth ≤ 60 ∧ (D.lst x).py.shown.length ≤ sizeLine) ∧ Q (.str (D.lst x).py.shown)) := rfl
theorem i_repr_bl {x : Bool} {Q : D → Prop} : biD .repr1 [.bl x] Q = (((D.bl x).plain = true ∧ (D.bl x).py.showable = true ∧ (D.bl x).py.depth ≤ 60 ∧ (D.bl x).py.shown.length ≤ sizeLine) ∧ Q (.str (D.bl x).py.shown)) := rfl
theorem i_repr_int {x : Int} {Q : D → Prop} : biD .repr1 [.int x] Q = (((D.int x).plain = true ∧ (D.int x).py.showable = true ∧ (D.int x).py.depth ≤ 60 ∧ (D.int x).py.shown.length ≤ sizeLine) ∧ Q (.str (D.int x).py.shown)) := rfl
theorem y_bl {T : Nat} {x : Bool} : isiD T (.bl x) = some (T == 0 || T == 1) := rfl
theorem y_int {T : Nat} {x : Int} : isiD T (.int x) = some (T == 0) := rfl
theorem y_str {T : Nat} {x : Str} : isiD T (.str x) = some (T == 4) := rfl
theorem y_tup {T : Nat} {x : List D} : isiD T (.tup x) = some (T == 2) := rfl
theorem y_lst {T : Nat} {x : List D} : isiD T (.lst x) = some (T == 3) := rfl
theorem y_non {T : Nat} : isiD T .non = some false := rfl
theorem it_tup {xs : List D} : items (.tup xs) = some xs := rfl
theorem it_lst {xs : List D} : items (.lst xs) = some xs := rfl
theorem it_scr {ns : List Int} : items (.scr ns) = some (ns.map D.int) := rfl
theorem t_bl {b : Bool} : truth (.bl b) = some b := rfl
theorem t_int {i : Int} : truth (.int i) = some (i != 0) := rfl
theorem t_tup {xs : List D} : truth (.tup xs) = some (!xs.isEmpty) := rfl
theorem t_lst {xs : List D} : truth (.lst xs) = some (!xs.isEmpty) := rfl
theorem t_non : truth .non = some false := rfl
/-- a loop's turn -/
def forB (G : Env) (g : Gt) (b : Ss) : D → Sl → Ce → Ed → Prop := fun x σ W d => match gset g x σ with
  | some σ1 => wpSs G b σ1 W d
  | none => False
theorem w_for {G : Env} {it : I} {g : Gt} {b : Ss} {σ : Sl} {W : Ce} {d : Ed} : wpS G (.sfor it g b) σ W d = wpI G true it σ W fun xs W1 => forL (forB G g b) xs σ W1 d := by
  simp only [wpS]
  rfl
/-- what comes after a statement -/
def rest (G : Env) (ss : Ss) (d : Ed) : Sl → Ce → Prop := fun σ W => wpSs G ss σ W d
theorem rest_go {G : Env} {ss : Ss} {d : Ed} {σ : Sl} {W : Ce} (h : wpSs G ss σ W d) : rest G ss d σ W := h
theorem rest_cons {G : Env} {ss : Ss} {d : Ed} {x : SV} {σ : Sl} {W : Ce} : rest G ss d (x :: σ) W = wpSs G ss (x :: σ) W d := rfl
theorem w_cons {G : Env} {s : S} {ss : Ss} {σ : Sl} {W : Ce} {d : Ed} : wpSs G (.cons s ss) σ W d = wpS G s σ W { d with nx := rest G ss d } := by
  simp only [wpSs]
  rfl
theorem w_nil {G : Env} {σ : Sl} {W : Ce} {d : Ed} : wpSs G .nil σ W d = d.nx σ W := by simp only [wpSs]
/-- a comprehension's turn -/
def lcB (G : Env) (g : Gt) (cond elt : E) (vs : List Nat) (σ : Sl) : D → Ce → (Option D → Ce → Prop) → Prop := fun x W2 R => match gset g x (wipeD σ vs) with
  | some σ3 => wpE G cond σ3 W2 fun c W4 => (match truth (view σ3 W4 c) with
    | some true => wpE G elt σ3 W4 fun d W5 => d.nb = true ∧ R (some d) W5
    | some false => R none W4
    | none => False)
  | none => False
theorem w_lc {G : Env} {it : I} {g : Gt} {cond elt : E} {vs : List Nat} {σ : Sl} {W : Ce} {Q : D → Ce → Prop} : wpE G (.lc it g cond elt vs) σ W Q = (noOw σ vs = true ∧ wpI G false it σ W fun xs W1 => xs.length ≤ sizeLine ∧ lcL (lcB G g cond elt vs σ) xs W1 fun ys W2 => Q (.lst ys) W2) := by
  simp only [wpE]
  rfl
theorem g_name {i : Nat} {d : D} {σ : Sl} : gset (.name i) d σ = if d.nb = true ∧ i < σ.length then some (σ.set i (.sh d)) else none := by simp only [gset]
theorem g_tup {gs : Gts} {xs : List D} {σ : Sl} : gset (.tup gs) (.tup xs) σ = gsets gs xs σ := by simp only [gset]
/-! ### sizes -/
def Sz (b : Nat) (i : Int) : Prop := i.natAbs < 2 ^ b
theorem Sz.mono {b c : Nat} {i : Int} (h : Sz b i) (k : b ≤ c) : Sz c i := Nat.lt_of_lt_of_le h (Nat.pow_le_pow_right (by decide) k)
theorem Sz.mul {b c : Nat} {i j : Int} (h : Sz b i) (k : Sz c j) : Sz (b + c) (i * j) := by
  unfold Sz at *
  rw [Int.natAbs_mul, Nat.pow_add]
  exact Nat.mul_lt_mul'' h k
theorem Sz.add {b : Nat} {i j : Int} (h : Sz b i) (k : Sz b j) : Sz (b + 1) (i + j) := by
  unfold Sz at *
  rw [Nat.pow_succ]
  omega
theorem Sz.neg {b : Nat} {i : Int} (h : Sz b i) : Sz b (-i) := by
  unfold Sz at *
  omega
theorem Sz.sub {b : Nat} {i j : Int} (h : Sz b i) (k : Sz b j) : Sz (b + 1) (i - j) := by
  rw [Int.sub_eq_add_neg]
  exact h.add k.neg
theorem Sz.bits {b : Nat} {i : Int} (h : Sz b i) : Builtin.Int.intBits i ≤ b := by
  unfold Builtin.Int.intBits
  unfold Sz at h
  split
  · omega
  · rename_i c
    have n0 : i.natAbs ≠ 0 := by
      intro z
      apply c
      have : i = 0 := by omega
      subst this
      rfl
    exact (Nat.log2_lt n0).mpr h
theorem Sz.cmul {b c : Nat} {i j : Int} (h : Sz b i) (k : Sz c j) (l : b + c ≤ 134217728) : CMulX i j := by
  have h1 := h.bits
  have h2 := k.bits
  unfold CMulX
  omega
/-! ### fractions -/
def fr (q : Rat) : D := .tup [.int q.num, .int q.den]
theorem nb_fr {q : Rat} : (fr q).nb = true := rfl
theorem view_fr {σ : Sl} {W : Ce} {q : Rat} : view σ W (fr q) = fr q := rfl
theorem it_fr {q : Rat} : items (fr q) = some [.int q.num, .int q.den] := rfl
def Bd (b : Nat) (q : Rat) : Prop := Sz b q.num ∧ Sz b q.den
theorem Bd.mono {b c : Nat} {q : Rat} (h : Bd b q) (k : b ≤ c) : Bd c q := ⟨h.1.mono k, h.2.mono k⟩
theorem Sz.le {b : Nat} {i j : Int} (h : Sz b i) (k : j.natAbs ≤ i.natAbs) : Sz b j := Nat.lt_of_le_of_lt k h
theorem num_pos {a b : Int} (h : 0 < b) : (Rat.divInt a b).num = a.fdiv (Int.gcd a b) := by
  rw [Rat.num_divInt, Int.sign_eq_one_of_pos h, Int.one_mul, Int.gcd_comm, Int.fdiv_eq_ediv_of_nonneg _ (Int.natCast_nonneg _)]
theorem den_pos' {a b : Int} (h : 0 < b) : ((Rat.divInt a b).den : Int) = b.fdiv (Int.gcd a b) := by
  rw [Rat.den_divInt, if_neg (by omega), Int.gcd_comm, Int.fdiv_eq_ediv_of_nonneg _ (Int.natCast_nonneg _)]
  rw [Int.natCast_ediv, Int.natAbs_of_nonneg (by omega)]
theorem divInt_flip (a b : Int) : Rat.divInt (-a) (-b) = Rat.divInt a b := by
  rw [Rat.divInt_eq_div, Rat.divInt_eq_div]
  simp only [Rat.intCast_neg]
  grind
theorem divInt_sz {b : Nat} {x y : Int} (hx : Sz b x) (hy : Sz b y) (h : y ≠ 0) : Bd b (Rat.divInt x y) := by
  refine ⟨hx.le ?_, hy.le ?_⟩
  · rw [Rat.num_divInt]
    refine Nat.le_trans (Int.natAbs_ediv_le_natAbs _ _) ?_
    rw [Int.natAbs_mul]
    have : y.sign.natAbs ≤ 1 := by
      rw [Int.natAbs_sign]
      split <;> omega
    calc y.sign.natAbs * x.natAbs ≤ 1 * x.natAbs := Nat.mul_le_mul_right _ this
      _ = x.natAbs := Nat.one_mul _
  · rw [Rat.den_divInt, if_neg h]
    exact Nat.div_le_self _ _
theorem rat_def (q : Rat) : q = (q.num : Rat) / ((q.den : Int) : Rat) := by
  rw [← Rat.divInt_eq_div]
  exact (Rat.mkRat_self q).symm
theorem den_ne (q : Rat) : ((q.den : Int) : Rat) ≠ 0 := by
  have := q.den_nz
  intro h
  have : (q.den : Int) = 0 := by exact_mod_cast h
  omega
theorem den_gt (q : Rat) : (0 : Int) < (q.den : Int) := by
  have := q.den_nz
  omega
theorem add_eq (x y : Rat) : Rat.divInt (x.num * y.den + y.num * x.den) (x.den * y.den) = x + y := by
  rw [Rat.divInt_eq_div]
  have h1 := rat_def x
  have h2 := rat_def y
  have h3 := den_ne x
  have h4 := den_ne y
  simp only [Rat.intCast_add, Rat.intCast_mul] at *
  grind
theorem sub_eq (x y : Rat) : Rat.divInt (x.num * y.den - y.num * x.den) (x.den * y.den) = x - y := by
  rw [Rat.divInt_eq_div]
  have h1 := rat_def x
  have h2 := rat_def y
  have h3 := den_ne x
  have h4 := den_ne y
  simp only [Rat.intCast_sub, Rat.intCast_mul] at *
  grind
theorem mul_eq (x y : Rat) : Rat.divInt (x.num * y.num) (x.den * y.den) = x * y := by
  rw [Rat.divInt_eq_div]
  have h1 := rat_def x
  have h2 := rat_def y
  have h3 := den_ne x
  have h4 := den_ne y
  simp only [Rat.intCast_mul] at *
  grind
theorem den_mul_pos (x y : Rat) : (0 : Int) < (x.den : Int) * y.den := Int.mul_pos (den_gt x) (den_gt y)
theorem Bd.add {b c : Nat} {x y : Rat} (h : Bd b x) (k : Bd c y) : Bd (b + c + 1) (x + y) := by
  rw [← add_eq]
  refine divInt_sz ?_ ((h.2.mul k.2).mono (by omega)) (Int.ne_of_gt (den_mul_pos x y))
  exact (h.1.mul k.2).add ((k.1.mul h.2).mono (by omega))
theorem Bd.sub {b c : Nat} {x y : Rat} (h : Bd b x) (k : Bd c y) : Bd (b + c + 1) (x - y) := by
  rw [← sub_eq]
  refine divInt_sz ?_ ((h.2.mul k.2).mono (by omega)) (Int.ne_of_gt (den_mul_pos x y))
  exact (h.1.mul k.2).sub ((k.1.mul h.2).mono (by omega))
theorem Bd.mul {b c : Nat} {x y : Rat} (h : Bd b x) (k : Bd c y) : Bd (b + c) (x * y) := by
  rw [← mul_eq]
  exact divInt_sz (h.1.mul k.1) (h.2.mul k.2) (Int.ne_of_gt (den_mul_pos x y))
theorem Bd.nat {b : Nat} {i : Int} (h : Sz (b + 1) i) : Bd (b + 1) (i : Rat) := by
  refine ⟨h, ?_⟩
  show (1 : Nat) < 2 ^ (b + 1)
  have := Nat.one_le_two_pow (n := b)
  rw [Nat.pow_succ]
  omega

def absR (x : Rat) : Rat := if x < 0 then -x else x
theorem neg_iff (x : Rat) : x < 0 ↔ x.num < 0 := by
  rw [Rat.lt_iff]
  have h1 : (0 : Rat).num = 0 := rfl
  have h2 : (0 : Rat).den = 1 := rfl
  rw [h1, h2]
  simp
theorem nonneg_iff (x : Rat) : 0 ≤ x ↔ 0 ≤ x.num := by
  rw [Rat.le_iff]
  have h1 : (0 : Rat).num = 0 := rfl
  have h2 : (0 : Rat).den = 1 := rfl
  rw [h1, h2]
  simp
theorem fr_abs (x : Rat) : fr (absR x) = .tup [.int (if x.num < 0 then -x.num else x.num), .int x.den] := by
  unfold absR
  by_cases h : x < 0
  · rw [if_pos h, if_pos ((neg_iff x).mp h)]
    rfl
  · rw [if_neg h, if_neg fun z => h ((neg_iff x).mpr z)]
    rfl
theorem Bd.abs {b : Nat} {x : Rat} (h : Bd b x) : Bd b (absR x) := by
  unfold absR
  split
  · exact ⟨h.1.neg, h.2⟩
  · exact h
/-! ### how a def is meant -/
section
variable (fs : List Fd) (cs : List D) (n i : Nat)
/-- two fractions to one -/
def SR2 (g : Rat → Rat → Rat) : Prop := ∀ (m : Nat) (x y : Rat) (b c : Nat) (W : Ce) (Q : D → Ce → Prop), Bd b x → Bd c y → b + c ≤ 5000 → Q (fr (g x y)) W → wpC fs cs (m + n) i [fr x, fr y] W Q
def SRatio : Prop := ∀ (m : Nat) (x y : Int) (b : Nat) (W : Ce) (Q : D → Ce → Prop), Sz b x → Sz b y → b ≤ 6000 → y ≠ 0 → Q (fr (Rat.divInt x y)) W → wpC fs cs (m + n) i [.int x, .int y] W Q
def SSize : Prop := ∀ (m : Nat) (x : Rat) (W : Ce) (Q : D → Ce → Prop), Q (fr (absR x)) W → wpC fs cs (m + n) i [fr x] W Q
def SBelow : Prop := ∀ (m : Nat) (x y : Rat) (b c : Nat) (W : Ce) (Q : D → Ce → Prop), Bd b x → Bd c y → b + c ≤ 5000 → Q (.bl (decide (x < y))) W → wpC fs cs (m + n) i [fr x, fr y] W Q
end
/-! ### values, ratios of the program -/
def fd_divisor_of : Fd := ⟨3, 1, .cons (.asg (.name 1) (.con (.int 0))) (.cons (.sfor (.val (.var 0)) (.name 2) (.cons (.asg (.name 1) (.bi .gcd (.cons (.var 1) (.cons (.var 2) .nil)))) .nil)) (.cons (.ret (.var 1)) .nil))⟩
def fd_lowest (d : Nat) : Fd := ⟨3, 1, .cons (.asg (.name 1) (.call d (.cons (.var 0) .nil))) (.cons (.ret (.bi .tuple1 (.cons (.lc (.val (.var 0)) (.name 2) (.con (.bl true)) (.bin .fdiv (.var 2) (.var 1)) [2]) .nil))) .nil)⟩
def fd_ratio (l : Nat) : Fd := ⟨2, 2, .cons (.ret (.ite (.cmp .gt (.var 1) (.con (.int 0))) (.call l (.cons (.tup (.cons (.var 0) (.cons (.var 1) .nil))) .nil)) (.call l (.cons (.tup (.cons (.neg (.var 0)) (.cons (.neg (.var 1)) .nil))) .nil)))) .nil⟩
def fd_plus (r : Nat) : Fd := ⟨2, 2, .cons (.ret (.call r (.cons (.bin .add (.bin .mul (.ix (.var 0) (.con (.int 0))) (.ix (.var 1) (.con (.int 1)))) (.bin .mul (.ix (.var 1) (.con (.int 0))) (.ix (.var 0) (.con (.int 1))))) (.cons (.bin .mul (.ix (.var 0) (.con (.int 1))) (.ix (.var 1) (.con (.int 1)))) .nil)))) .nil⟩
def fd_minus (r : Nat) : Fd := ⟨2, 2, .cons (.ret (.call r (.cons (.bin .sub (.bin .mul (.ix (.var 0) (.con (.int 0))) (.ix (.var 1) (.con (.int 1)))) (.bin .mul (.ix (.var 1) (.con (.int 0))) (.ix (.var 0) (.con (.int 1))))) (.cons (.bin .mul (.ix (.var 0) (.con (.int 1))) (.ix (.var 1) (.con (.int 1)))) .nil)))) .nil⟩
def fd_times (r : Nat) : Fd := ⟨2, 2, .cons (.ret (.call r (.cons (.bin .mul (.ix (.var 0) (.con (.int 0))) (.ix (.var 1) (.con (.int 0)))) (.cons (.bin .mul (.ix (.var 0) (.con (.int 1))) (.ix (.var 1) (.con (.int 1)))) .nil)))) .nil⟩
section
variable {fs : List Fd} {cs : List D} {n i j : Nat}
theorem plus_ok (hr : SRatio fs cs n j) (h : fs[i]? = some (fd_plus j)) : SR2 fs cs (n + 1) i (· + ·) := by
  intro m x y b c W Q hx hy hb hQ
  refine wpC_step h rfl ?_
  simp only [fd_plus, fr, ↓w_for, ↓w_lc, b_add, b_addT, b_addL, b_sub, b_mul, b_mulL, b_mulT, b_fdiv, b_mod, b_pow, c_lt, c_le, c_gt, c_ge, c_eq, c_ne, c_eqS, c_neS, c_eq_tup, c_ne_tup, c_eq_lst, c_ne_lst, c_eq_bl, c_ne_bl, c_inT, c_ninT, i_int, i_intB, i_abs, i_dm, i_len_tup, i_len_lst, i_len_scr, i_max, i_min, i_gcd, i_isqrt, i_tuple1_tup, i_tuple1_lst, i_list1_tup, i_list1_lst, i_all, i_any, i_sum, i_repr_tup, i_repr_lst, i_repr_bl, i_repr_int, y_bl, y_int, y_str, y_tup, y_lst, y_non, it_tup, it_lst, it_scr, t_bl, t_int, t_tup, t_lst, t_non, w_cons, w_nil, wpS, wpE, wpEs, wpG, wpGs, wpI, wpT, startD, nb_fr, view_fr, it_fr, nb_int, nb_tup, nb_bl, nb_str, nb_lst, nb_scr, nb_non, nb_cell, nbs, g_name, g_tup, gsets, wipeD, noOw, itOk, view_int, view_tup, view_bl, view_str, view_lst, view_scr, view_non, at0, at1, at2, at3, ix0, ix1, ix2, tgN, List.map_cons, List.map_nil, List.append_nil, List.nil_append, List.cons_append, List.length_cons, List.length_nil, List.replicate_zero, List.replicate_succ, List.getElem?_cons_zero, List.getElem?_cons_succ, List.set_cons_zero, List.set_cons_succ, List.all_cons, List.all_nil, Bool.and_true, Bool.true_and, Nat.sub_self, Nat.add_sub_cancel_left, zeroNat, if_true, reduceCtorEq, true_and, and_true, ite_true, ite_false, Bool.false_eq_true, if_false, Nat.reduceAdd, Nat.reduceSub, Nat.reduceLT, Nat.zero_add, List.all, Bool.and_self, Int.reduceToNat, List.reduceReplicate, List.flatten_cons, List.flatten_nil, eq_self, permD, List.getD_cons_zero, List.getD_cons_succ, sIx21, List.take_succ_cons, List.take_zero, Nat.reduceLeDiff, and_self, decide_true, decide_false, Bool.not_true, Bool.not_false, rest_cons]
  refine ⟨hx.1.cmul hy.2 (by omega), hy.1.cmul hx.2 (by omega), hx.2.cmul hy.2 (by omega), ?_⟩
  refine hr m _ _ (b + c + 1) W _ ((hx.1.mul hy.2).add ((hy.1.mul hx.2).mono (by omega))) ((hx.2.mul hy.2).mono (by omega)) (by omega) (Int.ne_of_gt (den_mul_pos x y)) ?_
  rw [add_eq]
  exact ⟨rfl, hQ⟩
theorem minus_ok (hr : SRatio fs cs n j) (h : fs[i]? = some (fd_minus j)) : SR2 fs cs (n + 1) i (· - ·) := by
  intro m x y b c W Q hx hy hb hQ
  refine wpC_step h rfl ?_
  simp only [fd_minus, fr, ↓w_for, ↓w_lc, b_add, b_addT, b_addL, b_sub, b_mul, b_mulL, b_mulT, b_fdiv, b_mod, b_pow, c_lt, c_le, c_gt, c_ge, c_eq, c_ne, c_eqS, c_neS, c_eq_tup, c_ne_tup, c_eq_lst, c_ne_lst, c_eq_bl, c_ne_bl, c_inT, c_ninT, i_int, i_intB, i_abs, i_dm, i_len_tup, i_len_lst, i_len_scr, i_max, i_min, i_gcd, i_isqrt, i_tuple1_tup, i_tuple1_lst, i_list1_tup, i_list1_lst, i_all, i_any, i_sum, i_repr_tup, i_repr_lst, i_repr_bl, i_repr_int, y_bl, y_int, y_str, y_tup, y_lst, y_non, it_tup, it_lst, it_scr, t_bl, t_int, t_tup, t_lst, t_non, w_cons, w_nil, wpS, wpE, wpEs, wpG, wpGs, wpI, wpT, startD, nb_fr, view_fr, it_fr, nb_int, nb_tup, nb_bl, nb_str, nb_lst, nb_scr, nb_non, nb_cell, nbs, g_name, g_tup, gsets, wipeD, noOw, itOk, view_int, view_tup, view_bl, view_str, view_lst, view_scr, view_non, at0, at1, at2, at3, ix0, ix1, ix2, tgN, List.map_cons, List.map_nil, List.append_nil, List.nil_append, List.cons_append, List.length_cons, List.length_nil, List.replicate_zero, List.replicate_succ, List.getElem?_cons_zero, List.getElem?_cons_succ, List.set_cons_zero, List.set_cons_succ, List.all_cons, List.all_nil, Bool.and_true, Bool.true_and, Nat.sub_self, Nat.add_sub_cancel_left, zeroNat, if_true, reduceCtorEq, true_and, and_true, ite_true, ite_false, Bool.false_eq_true, if_false, Nat.reduceAdd, Nat.reduceSub, Nat.reduceLT, Nat.zero_add, List.all, Bool.and_self, Int.reduceToNat, List.reduceReplicate, List.flatten_cons, List.flatten_nil, eq_self, permD, List.getD_cons_zero, List.getD_cons_succ, sIx21, List.take_succ_cons, List.take_zero, Nat.reduceLeDiff, and_self, decide_true, decide_false, Bool.not_true, Bool.not_false, rest_cons]
  refine ⟨hx.1.cmul hy.2 (by omega), hy.1.cmul hx.2 (by omega), hx.2.cmul hy.2 (by omega), ?_⟩
  refine hr m _ _ (b + c + 1) W _ ((hx.1.mul hy.2).sub ((hy.1.mul hx.2).mono (by omega))) ((hx.2.mul hy.2).mono (by omega)) (by omega) (Int.ne_of_gt (den_mul_pos x y)) ?_
  rw [sub_eq]
  exact ⟨rfl, hQ⟩
theorem times_ok (hr : SRatio fs cs n j) (h : fs[i]? = some (fd_times j)) : SR2 fs cs (n + 1) i (· * ·) := by
  intro m x y b c W Q hx hy hb hQ
  refine wpC_step h rfl ?_
  simp only [fd_times, fr, ↓w_for, ↓w_lc, b_add, b_addT, b_addL, b_sub, b_mul, b_mulL, b_mulT, b_fdiv, b_mod, b_pow, c_lt, c_le, c_gt, c_ge, c_eq, c_ne, c_eqS, c_neS, c_eq_tup, c_ne_tup, c_eq_lst, c_ne_lst, c_eq_bl, c_ne_bl, c_inT, c_ninT, i_int, i_intB, i_abs, i_dm, i_len_tup, i_len_lst, i_len_scr, i_max, i_min, i_gcd, i_isqrt, i_tuple1_tup, i_tuple1_lst, i_list1_tup, i_list1_lst, i_all, i_any, i_sum, i_repr_tup, i_repr_lst, i_repr_bl, i_repr_int, y_bl, y_int, y_str, y_tup, y_lst, y_non, it_tup, it_lst, it_scr, t_bl, t_int, t_tup, t_lst, t_non, w_cons, w_nil, wpS, wpE, wpEs, wpG, wpGs, wpI, wpT, startD, nb_fr, view_fr, it_fr, nb_int, nb_tup, nb_bl, nb_str, nb_lst, nb_scr, nb_non, nb_cell, nbs, g_name, g_tup, gsets, wipeD, noOw, itOk, view_int, view_tup, view_bl, view_str, view_lst, view_scr, view_non, at0, at1, at2, at3, ix0, ix1, ix2, tgN, List.map_cons, List.map_nil, List.append_nil, List.nil_append, List.cons_append, List.length_cons, List.length_nil, List.replicate_zero, List.replicate_succ, List.getElem?_cons_zero, List.getElem?_cons_succ, List.set_cons_zero, List.set_cons_succ, List.all_cons, List.all_nil, Bool.and_true, Bool.true_and, Nat.sub_self, Nat.add_sub_cancel_left, zeroNat, if_true, reduceCtorEq, true_and, and_true, ite_true, ite_false, Bool.false_eq_true, if_false, Nat.reduceAdd, Nat.reduceSub, Nat.reduceLT, Nat.zero_add, List.all, Bool.and_self, Int.reduceToNat, List.reduceReplicate, List.flatten_cons, List.flatten_nil, eq_self, permD, List.getD_cons_zero, List.getD_cons_succ, sIx21, List.take_succ_cons, List.take_zero, Nat.reduceLeDiff, and_self, decide_true, decide_false, Bool.not_true, Bool.not_false, rest_cons]
  refine ⟨hx.1.cmul hy.1 (by omega), hx.2.cmul hy.2 (by omega), ?_⟩
  refine hr m _ _ (b + c) W _ (hx.1.mul hy.1) (hx.2.mul hy.2) (by omega) (Int.ne_of_gt (den_mul_pos x y)) ?_
  rw [mul_eq]
  exact ⟨rfl, hQ⟩
end
end Bn

set_option Elab.async false
set_option linter.all false
set_option maxRecDepth 100000
/-! Bn, part 20: loops; divisors; what is a fraction. -/
namespace Bn
open PySem L2
theorem forL_rest {f : D → Sl → Ce → Ed → Prop} {d : Ed} {P : List D → Sl → Ce → Prop} (step : ∀ (x : D) (r : List D) (σ : Sl) (W : Ce) (e : Ed), P (x :: r) σ W → (∀ σ' W', P r σ' W' → e.nx σ' W') → (∀ σ' W', P r σ' W' → e.ct σ' W') → e.rt = d.rt → e.bk = d.nx → f x σ W e)
    (fin : ∀ σ W, P [] σ W → d.nx σ W) : ∀ (xs : List D) (σ : Sl) (W : Ce), P xs σ W → forL f xs σ W d
  | [], σ, W, h => fin σ W h
  | x :: xs, σ, W, h => step x xs σ W _ h (fun σ' W' k => forL_rest step fin xs σ' W' k) (fun σ' W' k => forL_rest step fin xs σ' W' k) rfl rfl
theorem lcL_map {f : D → Ce → (Option D → Ce → Prop) → Prop} {g : D → D} {W : Ce} : ∀ (xs : List D) {Q : List D → Ce → Prop}, (∀ x ∈ xs, ∀ R : Option D → Ce → Prop, R (some (g x)) W → f x W R) → Q (xs.map g) W → lcL f xs W Q
  | [], _, _, k => k
  | x :: xs, Q, h, k => by
    refine h x List.mem_cons_self _ ?_
    exact lcL_map xs (fun y hy => h y (List.mem_cons_of_mem _ hy)) k
def gcds (g : Nat) (ns : List Int) : Nat := ns.foldl (fun g n => Nat.gcd g n.natAbs) g
def isWh : D → Bool
  | .int _ => true
  | _ => false
def isWhs (k : Int) : D → Bool
  | .tup xs => decide ((xs.length : Int) = k) && xs.all isWh
  | _ => false
def isRat : D → Bool
  | .tup [.int a, .int b] => decide (0 < b) && decide (Nat.gcd a.natAbs b.natAbs = 1)
  | _ => false
theorem isRat_fr (q : Rat) : isRat (fr q) = true := by
  have h := q.reduced
  have h2 := den_gt q
  simp only [isRat, fr, h2, decide_true, Bool.true_and, decide_eq_true_eq]
  exact h
theorem allBl_map (f : D → Bool) : ∀ xs : List D, allBl (xs.map fun x => .bl (f x)) = some (xs.map f)
  | [] => rfl
  | x :: xs => by
    show (allBl (xs.map fun x => .bl (f x))).map _ = _
    rw [allBl_map f xs]
    rfl
section
variable (fs : List Fd) (cs : List D) (n i : Nat)
def SDiv : Prop := ∀ (m : Nat) (ns : List Int) (W : Ce) (Q : D → Ce → Prop), Q (.int (gcds 0 ns : Nat)) W → wpC fs cs (m + n) i [.tup (ns.map .int)] W Q
/-- a test of any plain value -/
def STest (t : D → Bool) : Prop := ∀ (m : Nat) (d : D) (W : Ce) (Q : D → Ce → Prop), d.plain = true → Q (.bl (t d)) W → wpC fs cs (m + n) i [d] W Q
def SWholes : Prop := ∀ (m : Nat) (d : D) (k : Int) (W : Ce) (Q : D → Ce → Prop), d.plain = true → k ≤ 1000 → Q (.bl (isWhs k d)) W → wpC fs cs (m + n) i [d, .int k] W Q
def SLow2 : Prop := ∀ (m : Nat) (x y : Int) (W : Ce) (Q : D → Ce → Prop), 0 < y → Sz 8000 y → Q (fr (Rat.divInt x y)) W → wpC fs cs (m + n) i [.tup [.int x, .int y]] W Q
end
def fd_is_whole : Fd := ⟨1, 1, .cons (.ret (.and (.isi (.var 0) 0) (.not (.isi (.var 0) 1)))) .nil⟩
def fd_are_wholes (w : Nat) : Fd := ⟨3, 2, .cons (.ret (.and (.isi (.var 0) 2) (.and (.cmp .eq (.bi .len (.cons (.var 0) .nil)) (.var 1)) (.bi .all1 (.cons (.lc (.val (.var 0)) (.name 2) (.con (.bl true)) (.call w (.cons (.var 2) .nil)) [2]) .nil))))) .nil⟩
def fd_is_ratio (a d : Nat) : Fd := ⟨1, 1, .cons (.ret (.and (.call a (.cons (.var 0) (.cons (.con (.int 2)) .nil))) (.and (.cmp .gt (.ix (.var 0) (.con (.int 1))) (.con (.int 0))) (.cmp .eq (.call d (.cons (.var 0) .nil)) (.con (.int 1)))))) .nil⟩
def fd_is_from_nought (r : Nat) : Fd := ⟨1, 1, .cons (.ret (.and (.call r (.cons (.var 0) .nil)) (.cmp .ge (.ix (.var 0) (.con (.int 0))) (.con (.int 0))))) .nil⟩
def fd_size_of : Fd := ⟨1, 1, .cons (.ret (.tup (.cons (.bi .abs (.cons (.ix (.var 0) (.con (.int 0))) .nil)) (.cons (.ix (.var 0) (.con (.int 1))) .nil)))) .nil⟩
def fd_is_below : Fd := ⟨2, 2, .cons (.ret (.cmp .lt (.bin .mul (.ix (.var 0) (.con (.int 0))) (.ix (.var 1) (.con (.int 1)))) (.bin .mul (.ix (.var 1) (.con (.int 0))) (.ix (.var 0) (.con (.int 1)))))) .nil⟩
section
variable {fs : List Fd} {cs : List D} {n i j j2 : Nat}
theorem divisor_ok (h : fs[i]? = some fd_divisor_of) : SDiv fs cs 1 i := by
  intro m ns W Q hQ
  refine wpC_step h rfl ?_
  simp only [fd_divisor_of, ↓w_for, ↓w_lc, b_add, b_addT, b_addL, b_sub, b_mul, b_mulL, b_mulT, b_fdiv, b_mod, b_pow, c_lt, c_le, c_gt, c_ge, c_eq, c_ne, c_eqS, c_neS, c_eq_tup, c_ne_tup, c_eq_lst, c_ne_lst, c_eq_bl, c_ne_bl, c_inT, c_ninT, i_int, i_intB, i_abs, i_dm, i_len_tup, i_len_lst, i_len_scr, i_max, i_min, i_gcd, i_isqrt, i_tuple1_tup, i_tuple1_lst, i_list1_tup, i_list1_lst, i_all, i_any, i_sum, i_repr_tup, i_repr_lst, i_repr_bl, i_repr_int, y_bl, y_int, y_str, y_tup, y_lst, y_non, it_tup, it_lst, it_scr, t_bl, t_int, t_tup, t_lst, t_non, w_cons, w_nil, wpS, wpE, wpEs, wpG, wpGs, wpI, wpT, startD, nb_fr, view_fr, it_fr, nb_int, nb_tup, nb_bl, nb_str, nb_lst, nb_scr, nb_non, nb_cell, nbs, g_name, g_tup, gsets, wipeD, noOw, itOk, view_int, view_tup, view_bl, view_str, view_lst, view_scr, view_non, at0, at1, at2, at3, ix0, ix1, ix2, tgN, List.map_cons, List.map_nil, List.append_nil, List.nil_append, List.cons_append, List.length_cons, List.length_nil, List.replicate_zero, List.replicate_succ, List.getElem?_cons_zero, List.getElem?_cons_succ, List.set_cons_zero, List.set_cons_succ, List.all_cons, List.all_nil, Bool.and_true, Bool.true_and, Nat.sub_self, Nat.add_sub_cancel_left, zeroNat, if_true, reduceCtorEq, true_and, and_true, ite_true, ite_false, Bool.false_eq_true, if_false, Nat.reduceAdd, Nat.reduceSub, Nat.reduceLT, Nat.zero_add, List.all, Bool.and_self, Int.reduceToNat, List.reduceReplicate, List.flatten_cons, List.flatten_nil, eq_self, permD, List.getD_cons_zero, List.getD_cons_succ, sIx21, List.take_succ_cons, List.take_zero, Nat.reduceLeDiff, and_self, decide_true, decide_false, Bool.not_true, Bool.not_false, rest_cons]
  refine forL_rest (P := fun r σ W' => ∃ (g : Nat) (ks : List Int) (z : SV), σ = [.sh (.tup (ns.map .int)), .sh (.int g), z] ∧ r = ks.map .int ∧ gcds g ks = gcds 0 ns ∧ W' = W) ?_ ?_ _ _ _ ⟨0, ns, .no, rfl, rfl, rfl, rfl⟩
  · rintro x r σ W' e ⟨g, ks, z, rfl, e1, e2, rfl⟩ hn hc hr hb
    cases ks with
    | nil => cases e1
    | cons k ks =>
      cases e1
      simp only [forB, ↓w_for, ↓w_lc, b_add, b_addT, b_addL, b_sub, b_mul, b_mulL, b_mulT, b_fdiv, b_mod, b_pow, c_lt, c_le, c_gt, c_ge, c_eq, c_ne, c_eqS, c_neS, c_eq_tup, c_ne_tup, c_eq_lst, c_ne_lst, c_eq_bl, c_ne_bl, c_inT, c_ninT, i_int, i_intB, i_abs, i_dm, i_len_tup, i_len_lst, i_len_scr, i_max, i_min, i_gcd, i_isqrt, i_tuple1_tup, i_tuple1_lst, i_list1_tup, i_list1_lst, i_all, i_any, i_sum, i_repr_tup, i_repr_lst, i_repr_bl, i_repr_int, y_bl, y_int, y_str, y_tup, y_lst, y_non, it_tup, it_lst, it_scr, t_bl, t_int, t_tup, t_lst, t_non, w_cons, w_nil, wpS, wpE, wpEs, wpG, wpGs, wpI, wpT, startD, nb_fr, view_fr, it_fr, nb_int, nb_tup, nb_bl, nb_str, nb_lst, nb_scr, nb_non, nb_cell, nbs, g_name, g_tup, gsets, wipeD, noOw, itOk, view_int, view_tup, view_bl, view_str, view_lst, view_scr, view_non, at0, at1, at2, at3, ix0, ix1, ix2, tgN, List.map_cons, List.map_nil, List.append_nil, List.nil_append, List.cons_append, List.length_cons, List.length_nil, List.replicate_zero, List.replicate_succ, List.getElem?_cons_zero, List.getElem?_cons_succ, List.set_cons_zero, List.set_cons_succ, List.all_cons, List.all_nil, Bool.and_true, Bool.true_and, Nat.sub_self, Nat.add_sub_cancel_left, zeroNat, if_true, reduceCtorEq, true_and, and_true, ite_true, ite_false, Bool.false_eq_true, if_false, Nat.reduceAdd, Nat.reduceSub, Nat.reduceLT, Nat.zero_add, List.all, Bool.and_self, Int.reduceToNat, List.reduceReplicate, List.flatten_cons, List.flatten_nil, eq_self, permD, List.getD_cons_zero, List.getD_cons_succ, sIx21, List.take_succ_cons, List.take_zero, Nat.reduceLeDiff, and_self, decide_true, decide_false, Bool.not_true, Bool.not_false, rest_cons]
      refine hn _ _ ⟨Nat.gcd g k.natAbs, ks, .sh (.int k), ?_, rfl, e2, rfl⟩
      simp only [Int.natAbs_natCast]
  · rintro σ W' ⟨g, ks, z, rfl, e1, e2, rfl⟩
    cases ks with
    | nil =>
      have e2 : g = gcds 0 ns := e2
      subst e2
      simp only [↓w_for, ↓w_lc, b_add, b_addT, b_addL, b_sub, b_mul, b_mulL, b_mulT, b_fdiv, b_mod, b_pow, c_lt, c_le, c_gt, c_ge, c_eq, c_ne, c_eqS, c_neS, c_eq_tup, c_ne_tup, c_eq_lst, c_ne_lst, c_eq_bl, c_ne_bl, c_inT, c_ninT, i_int, i_intB, i_abs, i_dm, i_len_tup, i_len_lst, i_len_scr, i_max, i_min, i_gcd, i_isqrt, i_tuple1_tup, i_tuple1_lst, i_list1_tup, i_list1_lst, i_all, i_any, i_sum, i_repr_tup, i_repr_lst, i_repr_bl, i_repr_int, y_bl, y_int, y_str, y_tup, y_lst, y_non, it_tup, it_lst, it_scr, t_bl, t_int, t_tup, t_lst, t_non, w_cons, w_nil, wpS, wpE, wpEs, wpG, wpGs, wpI, wpT, startD, nb_fr, view_fr, it_fr, nb_int, nb_tup, nb_bl, nb_str, nb_lst, nb_scr, nb_non, nb_cell, nbs, g_name, g_tup, gsets, wipeD, noOw, itOk, view_int, view_tup, view_bl, view_str, view_lst, view_scr, view_non, at0, at1, at2, at3, ix0, ix1, ix2, tgN, List.map_cons, List.map_nil, List.append_nil, List.nil_append, List.cons_append, List.length_cons, List.length_nil, List.replicate_zero, List.replicate_succ, List.getElem?_cons_zero, List.getElem?_cons_succ, List.set_cons_zero, List.set_cons_succ, List.all_cons, List.all_nil, Bool.and_true, Bool.true_and, Nat.sub_self, Nat.add_sub_cancel_left, zeroNat, if_true, reduceCtorEq, true_and, and_true, ite_true, ite_false, Bool.false_eq_true, if_false, Nat.reduceAdd, Nat.reduceSub, Nat.reduceLT, Nat.zero_add, List.all, Bool.and_self, Int.reduceToNat, List.reduceReplicate, List.flatten_cons, List.flatten_nil, eq_self, permD, List.getD_cons_zero, List.getD_cons_succ, sIx21, List.take_succ_cons, List.take_zero, Nat.reduceLeDiff, and_self, decide_true, decide_false, Bool.not_true, Bool.not_false, rest_cons]
      exact hQ
    | cons k ks => cases e1
theorem whole_ok (h : fs[i]? = some fd_is_whole) : STest fs cs 1 i isWh := by
  intro m d W Q hp hQ
  refine wpC_step h rfl ?_
  cases d <;> first | (simp only [D.plain, Bool.false_eq_true] at hp; done) | (simp only [fd_is_whole, ↓w_for, ↓w_lc, b_add, b_addT, b_addL, b_sub, b_mul, b_mulL, b_mulT, b_fdiv, b_mod, b_pow, c_lt, c_le, c_gt, c_ge, c_eq, c_ne, c_eqS, c_neS, c_eq_tup, c_ne_tup, c_eq_lst, c_ne_lst, c_eq_bl, c_ne_bl, c_inT, c_ninT, i_int, i_intB, i_abs, i_dm, i_len_tup, i_len_lst, i_len_scr, i_max, i_min, i_gcd, i_isqrt, i_tuple1_tup, i_tuple1_lst, i_list1_tup, i_list1_lst, i_all, i_any, i_sum, i_repr_tup, i_repr_lst, i_repr_bl, i_repr_int, y_bl, y_int, y_str, y_tup, y_lst, y_non, it_tup, it_lst, it_scr, t_bl, t_int, t_tup, t_lst, t_non, w_cons, w_nil, wpS, wpE, wpEs, wpG, wpGs, wpI, wpT, startD, nb_fr, view_fr, it_fr, nb_int, nb_tup, nb_bl, nb_str, nb_lst, nb_scr, nb_non, nb_cell, nbs, g_name, g_tup, gsets, wipeD, noOw, itOk, view_int, view_tup, view_bl, view_str, view_lst, view_scr, view_non, at0, at1, at2, at3, ix0, ix1, ix2, tgN, List.map_cons, List.map_nil, List.append_nil, List.nil_append, List.cons_append, List.length_cons, List.length_nil, List.replicate_zero, List.replicate_succ, List.getElem?_cons_zero, List.getElem?_cons_succ, List.set_cons_zero, List.set_cons_succ, List.all_cons, List.all_nil, Bool.and_true, Bool.true_and, Nat.sub_self, Nat.add_sub_cancel_left, zeroNat, if_true, reduceCtorEq, true_and, and_true, ite_true, ite_false, Bool.false_eq_true, if_false, Nat.reduceAdd, Nat.reduceSub, Nat.reduceLT, Nat.zero_add, List.all, Bool.and_self, Int.reduceToNat, List.reduceReplicate, List.flatten_cons, List.flatten_nil, eq_self, permD, List.getD_cons_zero, List.getD_cons_succ, sIx21, List.take_succ_cons, List.take_zero, Nat.reduceLeDiff, and_self, decide_true, decide_false, Bool.not_true, Bool.not_false, rest_cons]; exact hQ)
theorem plain_mem {x : D} : ∀ {xs : List D}, plains xs = true → x ∈ xs → x.plain = true
  | y :: ys, h, hm => by
    simp only [plains, Bool.and_eq_true] at h
    rcases List.mem_cons.mp hm with e | hm
    · subst e
      exact h.1
    · exact plain_mem h.2 hm
theorem plain_nb {d : D} (h : d.plain = true) : d.nb = true := by
  cases d <;> first | rfl | (simp [D.plain] at h)
theorem wholes_ok (hw : STest fs cs n j isWh) (h : fs[i]? = some (fd_are_wholes j)) : SWholes fs cs (n + 1) i := by
  intro m d k W Q hp hk hQ
  refine wpC_step h rfl ?_
  cases d with
  | tup xs =>
    simp only [fd_are_wholes, ↓w_for, ↓w_lc, b_add, b_addT, b_addL, b_sub, b_mul, b_mulL, b_mulT, b_fdiv, b_mod, b_pow, c_lt, c_le, c_gt, c_ge, c_eq, c_ne, c_eqS, c_neS, c_eq_tup, c_ne_tup, c_eq_lst, c_ne_lst, c_eq_bl, c_ne_bl, c_inT, c_ninT, i_int, i_intB, i_abs, i_dm, i_len_tup, i_len_lst, i_len_scr, i_max, i_min, i_gcd, i_isqrt, i_tuple1_tup, i_tuple1_lst, i_list1_tup, i_list1_lst, i_all, i_any, i_sum, i_repr_tup, i_repr_lst, i_repr_bl, i_repr_int, y_bl, y_int, y_str, y_tup, y_lst, y_non, it_tup, it_lst, it_scr, t_bl, t_int, t_tup, t_lst, t_non, w_cons, w_nil, wpS, wpE, wpEs, wpG, wpGs, wpI, wpT, startD, nb_fr, view_fr, it_fr, nb_int, nb_tup, nb_bl, nb_str, nb_lst, nb_scr, nb_non, nb_cell, nbs, g_name, g_tup, gsets, wipeD, noOw, itOk, view_int, view_tup, view_bl, view_str, view_lst, view_scr, view_non, at0, at1, at2, at3, ix0, ix1, ix2, tgN, List.map_cons, List.map_nil, List.append_nil, List.nil_append, List.cons_append, List.length_cons, List.length_nil, List.replicate_zero, List.replicate_succ, List.getElem?_cons_zero, List.getElem?_cons_succ, List.set_cons_zero, List.set_cons_succ, List.all_cons, List.all_nil, Bool.and_true, Bool.true_and, Nat.sub_self, Nat.add_sub_cancel_left, zeroNat, if_true, reduceCtorEq, true_and, and_true, ite_true, ite_false, Bool.false_eq_true, if_false, Nat.reduceAdd, Nat.reduceSub, Nat.reduceLT, Nat.zero_add, List.all, Bool.and_self, Int.reduceToNat, List.reduceReplicate, List.flatten_cons, List.flatten_nil, eq_self, permD, List.getD_cons_zero, List.getD_cons_succ, sIx21, List.take_succ_cons, List.take_zero, Nat.reduceLeDiff, and_self, decide_true, decide_false, Bool.not_true, Bool.not_false, rest_cons]
    by_cases e : (xs.length : Int) = k
    · simp only [isWhs, e, decide_true, Bool.true_and] at hQ
      simp only [e, ↓w_for, ↓w_lc, b_add, b_addT, b_addL, b_sub, b_mul, b_mulL, b_mulT, b_fdiv, b_mod, b_pow, c_lt, c_le, c_gt, c_ge, c_eq, c_ne, c_eqS, c_neS, c_eq_tup, c_ne_tup, c_eq_lst, c_ne_lst, c_eq_bl, c_ne_bl, c_inT, c_ninT, i_int, i_intB, i_abs, i_dm, i_len_tup, i_len_lst, i_len_scr, i_max, i_min, i_gcd, i_isqrt, i_tuple1_tup, i_tuple1_lst, i_list1_tup, i_list1_lst, i_all, i_any, i_sum, i_repr_tup, i_repr_lst, i_repr_bl, i_repr_int, y_bl, y_int, y_str, y_tup, y_lst, y_non, it_tup, it_lst, it_scr, t_bl, t_int, t_tup, t_lst, t_non, w_cons, w_nil, wpS, wpE, wpEs, wpG, wpGs, wpI, wpT, startD, nb_fr, view_fr, it_fr, nb_int, nb_tup, nb_bl, nb_str, nb_lst, nb_scr, nb_non, nb_cell, nbs, g_name, g_tup, gsets, wipeD, noOw, itOk, view_int, view_tup, view_bl, view_str, view_lst, view_scr, view_non, at0, at1, at2, at3, ix0, ix1, ix2, tgN, List.map_cons, List.map_nil, List.append_nil, List.nil_append, List.cons_append, List.length_cons, List.length_nil, List.replicate_zero, List.replicate_succ, List.getElem?_cons_zero, List.getElem?_cons_succ, List.set_cons_zero, List.set_cons_succ, List.all_cons, List.all_nil, Bool.and_true, Bool.true_and, Nat.sub_self, Nat.add_sub_cancel_left, zeroNat, if_true, reduceCtorEq, true_and, and_true, ite_true, ite_false, Bool.false_eq_true, if_false, Nat.reduceAdd, Nat.reduceSub, Nat.reduceLT, Nat.zero_add, List.all, Bool.and_self, Int.reduceToNat, List.reduceReplicate, List.flatten_cons, List.flatten_nil, eq_self, permD, List.getD_cons_zero, List.getD_cons_succ, sIx21, List.take_succ_cons, List.take_zero, Nat.reduceLeDiff, and_self, decide_true, decide_false, Bool.not_true, Bool.not_false, rest_cons]
      refine ⟨Nat.le_trans (m := 1000) (by omega) (by decide), ?_⟩
      refine lcL_map (g := fun x => .bl (isWh x)) xs (fun x hx R hR => ?_) ?_
      · have px : x.plain = true := plain_mem (by simpa only [D.plain] using hp) hx
        simp only [lcB, plain_nb px, ↓w_for, ↓w_lc, b_add, b_addT, b_addL, b_sub, b_mul, b_mulL, b_mulT, b_fdiv, b_mod, b_pow, c_lt, c_le, c_gt, c_ge, c_eq, c_ne, c_eqS, c_neS, c_eq_tup, c_ne_tup, c_eq_lst, c_ne_lst, c_eq_bl, c_ne_bl, c_inT, c_ninT, i_int, i_intB, i_abs, i_dm, i_len_tup, i_len_lst, i_len_scr, i_max, i_min, i_gcd, i_isqrt, i_tuple1_tup, i_tuple1_lst, i_list1_tup, i_list1_lst, i_all, i_any, i_sum, i_repr_tup, i_repr_lst, i_repr_bl, i_repr_int, y_bl, y_int, y_str, y_tup, y_lst, y_non, it_tup, it_lst, it_scr, t_bl, t_int, t_tup, t_lst, t_non, w_cons, w_nil, wpS, wpE, wpEs, wpG, wpGs, wpI, wpT, startD, nb_fr, view_fr, it_fr, nb_int, nb_tup, nb_bl, nb_str, nb_lst, nb_scr, nb_non, nb_cell, nbs, g_name, g_tup, gsets, wipeD, noOw, itOk, view_int, view_tup, view_bl, view_str, view_lst, view_scr, view_non, at0, at1, at2, at3, ix0, ix1, ix2, tgN, List.map_cons, List.map_nil, List.append_nil, List.nil_append, List.cons_append, List.length_cons, List.length_nil, List.replicate_zero, List.replicate_succ, List.getElem?_cons_zero, List.getElem?_cons_succ, List.set_cons_zero, List.set_cons_succ, List.all_cons, List.all_nil, Bool.and_true, Bool.true_and, Nat.sub_self, Nat.add_sub_cancel_left, zeroNat, if_true, reduceCtorEq, true_and, and_true, ite_true, ite_false, Bool.false_eq_true, if_false, Nat.reduceAdd, Nat.reduceSub, Nat.reduceLT, Nat.zero_add, List.all, Bool.and_self, Int.reduceToNat, List.reduceReplicate, List.flatten_cons, List.flatten_nil, eq_self, permD, List.getD_cons_zero, List.getD_cons_succ, sIx21, List.take_succ_cons, List.take_zero, Nat.reduceLeDiff, and_self, decide_true, decide_false, Bool.not_true, Bool.not_false, rest_cons]
        refine hw m x W _ px ?_
        exact ⟨rfl, hR⟩
      · simp only [↓w_for, ↓w_lc, b_add, b_addT, b_addL, b_sub, b_mul, b_mulL, b_mulT, b_fdiv, b_mod, b_pow, c_lt, c_le, c_gt, c_ge, c_eq, c_ne, c_eqS, c_neS, c_eq_tup, c_ne_tup, c_eq_lst, c_ne_lst, c_eq_bl, c_ne_bl, c_inT, c_ninT, i_int, i_intB, i_abs, i_dm, i_len_tup, i_len_lst, i_len_scr, i_max, i_min, i_gcd, i_isqrt, i_tuple1_tup, i_tuple1_lst, i_list1_tup, i_list1_lst, i_all, i_any, i_sum, i_repr_tup, i_repr_lst, i_repr_bl, i_repr_int, y_bl, y_int, y_str, y_tup, y_lst, y_non, it_tup, it_lst, it_scr, t_bl, t_int, t_tup, t_lst, t_non, w_cons, w_nil, wpS, wpE, wpEs, wpG, wpGs, wpI, wpT, startD, nb_fr, view_fr, it_fr, nb_int, nb_tup, nb_bl, nb_str, nb_lst, nb_scr, nb_non, nb_cell, nbs, g_name, g_tup, gsets, wipeD, noOw, itOk, view_int, view_tup, view_bl, view_str, view_lst, view_scr, view_non, at0, at1, at2, at3, ix0, ix1, ix2, tgN, List.map_cons, List.map_nil, List.append_nil, List.nil_append, List.cons_append, List.length_cons, List.length_nil, List.replicate_zero, List.replicate_succ, List.getElem?_cons_zero, List.getElem?_cons_succ, List.set_cons_zero, List.set_cons_succ, List.all_cons, List.all_nil, Bool.and_true, Bool.true_and, Nat.sub_self, Nat.add_sub_cancel_left, zeroNat, if_true, reduceCtorEq, true_and, and_true, ite_true, ite_false, Bool.false_eq_true, if_false, Nat.reduceAdd, Nat.reduceSub, Nat.reduceLT, Nat.zero_add, List.all, Bool.and_self, Int.reduceToNat, List.reduceReplicate, List.flatten_cons, List.flatten_nil, eq_self, permD, List.getD_cons_zero, List.getD_cons_succ, sIx21, List.take_succ_cons, List.take_zero, Nat.reduceLeDiff, and_self, decide_true, decide_false, Bool.not_true, Bool.not_false, rest_cons, allBl_map]
        have e2 : ((xs.map isWh).all id) = xs.all isWh := by
          rw [List.all_map]
          rfl
        rw [e2]
        exact hQ
    · simp only [isWhs, e, decide_false, Bool.false_and] at hQ
      simp only [e, ↓w_for, ↓w_lc, b_add, b_addT, b_addL, b_sub, b_mul, b_mulL, b_mulT, b_fdiv, b_mod, b_pow, c_lt, c_le, c_gt, c_ge, c_eq, c_ne, c_eqS, c_neS, c_eq_tup, c_ne_tup, c_eq_lst, c_ne_lst, c_eq_bl, c_ne_bl, c_inT, c_ninT, i_int, i_intB, i_abs, i_dm, i_len_tup, i_len_lst, i_len_scr, i_max, i_min, i_gcd, i_isqrt, i_tuple1_tup, i_tuple1_lst, i_list1_tup, i_list1_lst, i_all, i_any, i_sum, i_repr_tup, i_repr_lst, i_repr_bl, i_repr_int, y_bl, y_int, y_str, y_tup, y_lst, y_non, it_tup, it_lst, it_scr, t_bl, t_int, t_tup, t_lst, t_non, w_cons, w_nil, wpS, wpE, wpEs, wpG, wpGs, wpI, wpT, startD, nb_fr, view_fr, it_fr, nb_int, nb_tup, nb_bl, nb_str, nb_lst, nb_scr, nb_non, nb_cell, nbs, g_name, g_tup, gsets, wipeD, noOw, itOk, view_int, view_tup, view_bl, view_str, view_lst, view_scr, view_non, at0, at1, at2, at3, ix0, ix1, ix2, tgN, List.map_cons, List.map_nil, List.append_nil, List.nil_append, List.cons_append, List.length_cons, List.length_nil, List.replicate_zero, List.replicate_succ, List.getElem?_cons_zero, List.getElem?_cons_succ, List.set_cons_zero, List.set_cons_succ, List.all_cons, List.all_nil, Bool.and_true, Bool.true_and, Nat.sub_self, Nat.add_sub_cancel_left, zeroNat, if_true, reduceCtorEq, true_and, and_true, ite_true, ite_false, Bool.false_eq_true, if_false, Nat.reduceAdd, Nat.reduceSub, Nat.reduceLT, Nat.zero_add, List.all, Bool.and_self, Int.reduceToNat, List.reduceReplicate, List.flatten_cons, List.flatten_nil, eq_self, permD, List.getD_cons_zero, List.getD_cons_succ, sIx21, List.take_succ_cons, List.take_zero, Nat.reduceLeDiff, and_self, decide_true, decide_false, Bool.not_true, Bool.not_false, rest_cons]
      exact hQ
  | _ => first | (simp only [D.plain, Bool.false_eq_true] at hp; done) | (simp only [fd_are_wholes, ↓w_for, ↓w_lc, b_add, b_addT, b_addL, b_sub, b_mul, b_mulL, b_mulT, b_fdiv, b_mod, b_pow, c_lt, c_le, c_gt, c_ge, c_eq, c_ne, c_eqS, c_neS, c_eq_tup, c_ne_tup, c_eq_lst, c_ne_lst, c_eq_bl, c_ne_bl, c_inT, c_ninT, i_int, i_intB, i_abs, i_dm, i_len_tup, i_len_lst, i_len_scr, i_max, i_min, i_gcd, i_isqrt, i_tuple1_tup, i_tuple1_lst, i_list1_tup, i_list1_lst, i_all, i_any, i_sum, i_repr_tup, i_repr_lst, i_repr_bl, i_repr_int, y_bl, y_int, y_str, y_tup, y_lst, y_non, it_tup, it_lst, it_scr, t_bl, t_int, t_tup, t_lst, t_non, w_cons, w_nil, wpS, wpE, wpEs, wpG, wpGs, wpI, wpT, startD, nb_fr, view_fr, it_fr, nb_int, nb_tup, nb_bl, nb_str, nb_lst, nb_scr, nb_non, nb_cell, nbs, g_name, g_tup, gsets, wipeD, noOw, itOk, view_int, view_tup, view_bl, view_str, view_lst, view_scr, view_non, at0, at1, at2, at3, ix0, ix1, ix2, tgN, List.map_cons, List.map_nil, List.append_nil, List.nil_append, List.cons_append, List.length_cons, List.length_nil, List.replicate_zero, List.replicate_succ, List.getElem?_cons_zero, List.getElem?_cons_succ, List.set_cons_zero, List.set_cons_succ, List.all_cons, List.all_nil, Bool.and_true, Bool.true_and, Nat.sub_self, Nat.add_sub_cancel_left, zeroNat, if_true, reduceCtorEq, true_and, and_true, ite_true, ite_false, Bool.false_eq_true, if_false, Nat.reduceAdd, Nat.reduceSub, Nat.reduceLT, Nat.zero_add, List.all, Bool.and_self, Int.reduceToNat, List.reduceReplicate, List.flatten_cons, List.flatten_nil, eq_self, permD, List.getD_cons_zero, List.getD_cons_succ, sIx21, List.take_succ_cons, List.take_zero, Nat.reduceLeDiff, and_self, decide_true, decide_false, Bool.not_true, Bool.not_false, rest_cons]; exact hQ)
theorem gcds_two (x y : Int) : gcds 0 [x, y] = Int.gcd x y := by
  show Nat.gcd (Nat.gcd 0 x.natAbs) y.natAbs = _
  rw [Nat.gcd_zero_left]
  rfl
theorem fr_divInt {x y : Int} (h : 0 < y) : fr (Rat.divInt x y) = .tup [.int (x.fdiv (Int.gcd x y)), .int (y.fdiv (Int.gcd x y))] := by
  unfold fr
  rw [num_pos h, den_pos' h]
theorem gcd_ok {x y : Int} (h : 0 < y) (hs : Sz 8000 y) : ((Int.gcd x y : Nat) : Int) ≠ 0 ∧ ((Int.gcd x y : Nat) : Int).natAbs.log2 < 9000 := by
  have h1 : 0 < Int.gcd x y := Int.gcd_pos_of_ne_zero_right x (by omega)
  have h2 : Int.gcd x y ≤ y.natAbs := Nat.le_of_dvd (by omega) (Nat.gcd_dvd_right _ _)
  refine ⟨by omega, ?_⟩
  rw [Int.natAbs_natCast, Nat.log2_lt (by omega)]
  have h3 : y.natAbs < 2 ^ 8000 := hs
  exact Nat.lt_of_le_of_lt h2 (Nat.lt_of_lt_of_le h3 (Nat.pow_le_pow_right (by decide) (by decide)))
theorem low_ok (hd : SDiv fs cs n j) (h : fs[i]? = some (fd_lowest j)) : SLow2 fs cs (n + 1) i := by
  intro m x y W Q hy hs hQ
  refine wpC_step h rfl ?_
  simp only [fd_lowest, ↓w_for, ↓w_lc, b_add, b_addT, b_addL, b_sub, b_mul, b_mulL, b_mulT, b_fdiv, b_mod, b_pow, c_lt, c_le, c_gt, c_ge, c_eq, c_ne, c_eqS, c_neS, c_eq_tup, c_ne_tup, c_eq_lst, c_ne_lst, c_eq_bl, c_ne_bl, c_inT, c_ninT, i_int, i_intB, i_abs, i_dm, i_len_tup, i_len_lst, i_len_scr, i_max, i_min, i_gcd, i_isqrt, i_tuple1_tup, i_tuple1_lst, i_list1_tup, i_list1_lst, i_all, i_any, i_sum, i_repr_tup, i_repr_lst, i_repr_bl, i_repr_int, y_bl, y_int, y_str, y_tup, y_lst, y_non, it_tup, it_lst, it_scr, t_bl, t_int, t_tup, t_lst, t_non, w_cons, w_nil, wpS, wpE, wpEs, wpG, wpGs, wpI, wpT, startD, nb_fr, view_fr, it_fr, nb_int, nb_tup, nb_bl, nb_str, nb_lst, nb_scr, nb_non, nb_cell, nbs, g_name, g_tup, gsets, wipeD, noOw, itOk, view_int, view_tup, view_bl, view_str, view_lst, view_scr, view_non, at0, at1, at2, at3, ix0, ix1, ix2, tgN, List.map_cons, List.map_nil, List.append_nil, List.nil_append, List.cons_append, List.length_cons, List.length_nil, List.replicate_zero, List.replicate_succ, List.getElem?_cons_zero, List.getElem?_cons_succ, List.set_cons_zero, List.set_cons_succ, List.all_cons, List.all_nil, Bool.and_true, Bool.true_and, Nat.sub_self, Nat.add_sub_cancel_left, zeroNat, if_true, reduceCtorEq, true_and, and_true, ite_true, ite_false, Bool.false_eq_true, if_false, Nat.reduceAdd, Nat.reduceSub, Nat.reduceLT, Nat.zero_add, List.all, Bool.and_self, Int.reduceToNat, List.reduceReplicate, List.flatten_cons, List.flatten_nil, eq_self, permD, List.getD_cons_zero, List.getD_cons_succ, sIx21, List.take_succ_cons, List.take_zero, Nat.reduceLeDiff, and_self, decide_true, decide_false, Bool.not_true, Bool.not_false, rest_cons]
  refine hd m [x, y] W _ ?_
  rw [gcds_two]
  simp only [↓w_for, ↓w_lc, b_add, b_addT, b_addL, b_sub, b_mul, b_mulL, b_mulT, b_fdiv, b_mod, b_pow, c_lt, c_le, c_gt, c_ge, c_eq, c_ne, c_eqS, c_neS, c_eq_tup, c_ne_tup, c_eq_lst, c_ne_lst, c_eq_bl, c_ne_bl, c_inT, c_ninT, i_int, i_intB, i_abs, i_dm, i_len_tup, i_len_lst, i_len_scr, i_max, i_min, i_gcd, i_isqrt, i_tuple1_tup, i_tuple1_lst, i_list1_tup, i_list1_lst, i_all, i_any, i_sum, i_repr_tup, i_repr_lst, i_repr_bl, i_repr_int, y_bl, y_int, y_str, y_tup, y_lst, y_non, it_tup, it_lst, it_scr, t_bl, t_int, t_tup, t_lst, t_non, w_cons, w_nil, wpS, wpE, wpEs, wpG, wpGs, wpI, wpT, startD, nb_fr, view_fr, it_fr, nb_int, nb_tup, nb_bl, nb_str, nb_lst, nb_scr, nb_non, nb_cell, nbs, g_name, g_tup, gsets, wipeD, noOw, itOk, view_int, view_tup, view_bl, view_str, view_lst, view_scr, view_non, at0, at1, at2, at3, ix0, ix1, ix2, tgN, List.map_cons, List.map_nil, List.append_nil, List.nil_append, List.cons_append, List.length_cons, List.length_nil, List.replicate_zero, List.replicate_succ, List.getElem?_cons_zero, List.getElem?_cons_succ, List.set_cons_zero, List.set_cons_succ, List.all_cons, List.all_nil, Bool.and_true, Bool.true_and, Nat.sub_self, Nat.add_sub_cancel_left, zeroNat, if_true, reduceCtorEq, true_and, and_true, ite_true, ite_false, Bool.false_eq_true, if_false, Nat.reduceAdd, Nat.reduceSub, Nat.reduceLT, Nat.zero_add, List.all, Bool.and_self, Int.reduceToNat, List.reduceReplicate, List.flatten_cons, List.flatten_nil, eq_self, permD, List.getD_cons_zero, List.getD_cons_succ, sIx21, List.take_succ_cons, List.take_zero, Nat.reduceLeDiff, and_self, decide_true, decide_false, Bool.not_true, Bool.not_false, rest_cons]
  refine ⟨by decide, ?_⟩
  refine lcL_map (g := fun x' => match x' with
    | .int k => .int (k.fdiv (Int.gcd x y))
    | _ => .non) _ (fun z hz R hR => ?_) ?_
  · rcases List.mem_cons.mp hz with rfl | hz
    · simp only [lcB, ↓w_for, ↓w_lc, b_add, b_addT, b_addL, b_sub, b_mul, b_mulL, b_mulT, b_fdiv, b_mod, b_pow, c_lt, c_le, c_gt, c_ge, c_eq, c_ne, c_eqS, c_neS, c_eq_tup, c_ne_tup, c_eq_lst, c_ne_lst, c_eq_bl, c_ne_bl, c_inT, c_ninT, i_int, i_intB, i_abs, i_dm, i_len_tup, i_len_lst, i_len_scr, i_max, i_min, i_gcd, i_isqrt, i_tuple1_tup, i_tuple1_lst, i_list1_tup, i_list1_lst, i_all, i_any, i_sum, i_repr_tup, i_repr_lst, i_repr_bl, i_repr_int, y_bl, y_int, y_str, y_tup, y_lst, y_non, it_tup, it_lst, it_scr, t_bl, t_int, t_tup, t_lst, t_non, w_cons, w_nil, wpS, wpE, wpEs, wpG, wpGs, wpI, wpT, startD, nb_fr, view_fr, it_fr, nb_int, nb_tup, nb_bl, nb_str, nb_lst, nb_scr, nb_non, nb_cell, nbs, g_name, g_tup, gsets, wipeD, noOw, itOk, view_int, view_tup, view_bl, view_str, view_lst, view_scr, view_non, at0, at1, at2, at3, ix0, ix1, ix2, tgN, List.map_cons, List.map_nil, List.append_nil, List.nil_append, List.cons_append, List.length_cons, List.length_nil, List.replicate_zero, List.replicate_succ, List.getElem?_cons_zero, List.getElem?_cons_succ, List.set_cons_zero, List.set_cons_succ, List.all_cons, List.all_nil, Bool.and_true, Bool.true_and, Nat.sub_self, Nat.add_sub_cancel_left, zeroNat, if_true, reduceCtorEq, true_and, and_true, ite_true, ite_false, Bool.false_eq_true, if_false, Nat.reduceAdd, Nat.reduceSub, Nat.reduceLT, Nat.zero_add, List.all, Bool.and_self, Int.reduceToNat, List.reduceReplicate, List.flatten_cons, List.flatten_nil, eq_self, permD, List.getD_cons_zero, List.getD_cons_succ, sIx21, List.take_succ_cons, List.take_zero, Nat.reduceLeDiff, and_self, decide_true, decide_false, Bool.not_true, Bool.not_false, rest_cons]
      exact ⟨gcd_ok hy hs, hR⟩
    · rcases List.mem_cons.mp hz with rfl | hz
      · simp only [lcB, ↓w_for, ↓w_lc, b_add, b_addT, b_addL, b_sub, b_mul, b_mulL, b_mulT, b_fdiv, b_mod, b_pow, c_lt, c_le, c_gt, c_ge, c_eq, c_ne, c_eqS, c_neS, c_eq_tup, c_ne_tup, c_eq_lst, c_ne_lst, c_eq_bl, c_ne_bl, c_inT, c_ninT, i_int, i_intB, i_abs, i_dm, i_len_tup, i_len_lst, i_len_scr, i_max, i_min, i_gcd, i_isqrt, i_tuple1_tup, i_tuple1_lst, i_list1_tup, i_list1_lst, i_all, i_any, i_sum, i_repr_tup, i_repr_lst, i_repr_bl, i_repr_int, y_bl, y_int, y_str, y_tup, y_lst, y_non, it_tup, it_lst, it_scr, t_bl, t_int, t_tup, t_lst, t_non, w_cons, w_nil, wpS, wpE, wpEs, wpG, wpGs, wpI, wpT, startD, nb_fr, view_fr, it_fr, nb_int, nb_tup, nb_bl, nb_str, nb_lst, nb_scr, nb_non, nb_cell, nbs, g_name, g_tup, gsets, wipeD, noOw, itOk, view_int, view_tup, view_bl, view_str, view_lst, view_scr, view_non, at0, at1, at2, at3, ix0, ix1, ix2, tgN, List.map_cons, List.map_nil, List.append_nil, List.nil_append, List.cons_append, List.length_cons, List.length_nil, List.replicate_zero, List.replicate_succ, List.getElem?_cons_zero, List.getElem?_cons_succ, List.set_cons_zero, List.set_cons_succ, List.all_cons, List.all_nil, Bool.and_true, Bool.true_and, Nat.sub_self, Nat.add_sub_cancel_left, zeroNat, if_true, reduceCtorEq, true_and, and_true, ite_true, ite_false, Bool.false_eq_true, if_false, Nat.reduceAdd, Nat.reduceSub, Nat.reduceLT, Nat.zero_add, List.all, Bool.and_self, Int.reduceToNat, List.reduceReplicate, List.flatten_cons, List.flatten_nil, eq_self, permD, List.getD_cons_zero, List.getD_cons_succ, sIx21, List.take_succ_cons, List.take_zero, Nat.reduceLeDiff, and_self, decide_true, decide_false, Bool.not_true, Bool.not_false, rest_cons]
        exact ⟨gcd_ok hy hs, hR⟩
      · cases hz
  · simp only [↓w_for, ↓w_lc, b_add, b_addT, b_addL, b_sub, b_mul, b_mulL, b_mulT, b_fdiv, b_mod, b_pow, c_lt, c_le, c_gt, c_ge, c_eq, c_ne, c_eqS, c_neS, c_eq_tup, c_ne_tup, c_eq_lst, c_ne_lst, c_eq_bl, c_ne_bl, c_inT, c_ninT, i_int, i_intB, i_abs, i_dm, i_len_tup, i_len_lst, i_len_scr, i_max, i_min, i_gcd, i_isqrt, i_tuple1_tup, i_tuple1_lst, i_list1_tup, i_list1_lst, i_all, i_any, i_sum, i_repr_tup, i_repr_lst, i_repr_bl, i_repr_int, y_bl, y_int, y_str, y_tup, y_lst, y_non, it_tup, it_lst, it_scr, t_bl, t_int, t_tup, t_lst, t_non, w_cons, w_nil, wpS, wpE, wpEs, wpG, wpGs, wpI, wpT, startD, nb_fr, view_fr, it_fr, nb_int, nb_tup, nb_bl, nb_str, nb_lst, nb_scr, nb_non, nb_cell, nbs, g_name, g_tup, gsets, wipeD, noOw, itOk, view_int, view_tup, view_bl, view_str, view_lst, view_scr, view_non, at0, at1, at2, at3, ix0, ix1, ix2, tgN, List.map_cons, List.map_nil, List.append_nil, List.nil_append, List.cons_append, List.length_cons, List.length_nil, List.replicate_zero, List.replicate_succ, List.getElem?_cons_zero, List.getElem?_cons_succ, List.set_cons_zero, List.set_cons_succ, List.all_cons, List.all_nil, Bool.and_true, Bool.true_and, Nat.sub_self, Nat.add_sub_cancel_left, zeroNat, if_true, reduceCtorEq, true_and, and_true, ite_true, ite_false, Bool.false_eq_true, if_false, Nat.reduceAdd, Nat.reduceSub, Nat.reduceLT, Nat.zero_add, List.all, Bool.and_self, Int.reduceToNat, List.reduceReplicate, List.flatten_cons, List.flatten_nil, eq_self, permD, List.getD_cons_zero, List.getD_cons_succ, sIx21, List.take_succ_cons, List.take_zero, Nat.reduceLeDiff, and_self, decide_true, decide_false, Bool.not_true, Bool.not_false, rest_cons]
    rw [← fr_divInt hy]
    exact hQ
theorem ratio_ok (hl : SLow2 fs cs n j) (h : fs[i]? = some (fd_ratio j)) : SRatio fs cs (n + 1) i := by
  intro m x y b W Q hx hy hb h0 hQ
  refine wpC_step h rfl ?_
  have hy' : Sz 8000 y := hy.mono (by omega)
  by_cases c : 0 < y
  · simp only [fd_ratio, c, ↓w_for, ↓w_lc, b_add, b_addT, b_addL, b_sub, b_mul, b_mulL, b_mulT, b_fdiv, b_mod, b_pow, c_lt, c_le, c_gt, c_ge, c_eq, c_ne, c_eqS, c_neS, c_eq_tup, c_ne_tup, c_eq_lst, c_ne_lst, c_eq_bl, c_ne_bl, c_inT, c_ninT, i_int, i_intB, i_abs, i_dm, i_len_tup, i_len_lst, i_len_scr, i_max, i_min, i_gcd, i_isqrt, i_tuple1_tup, i_tuple1_lst, i_list1_tup, i_list1_lst, i_all, i_any, i_sum, i_repr_tup, i_repr_lst, i_repr_bl, i_repr_int, y_bl, y_int, y_str, y_tup, y_lst, y_non, it_tup, it_lst, it_scr, t_bl, t_int, t_tup, t_lst, t_non, w_cons, w_nil, wpS, wpE, wpEs, wpG, wpGs, wpI, wpT, startD, nb_fr, view_fr, it_fr, nb_int, nb_tup, nb_bl, nb_str, nb_lst, nb_scr, nb_non, nb_cell, nbs, g_name, g_tup, gsets, wipeD, noOw, itOk, view_int, view_tup, view_bl, view_str, view_lst, view_scr, view_non, at0, at1, at2, at3, ix0, ix1, ix2, tgN, List.map_cons, List.map_nil, List.append_nil, List.nil_append, List.cons_append, List.length_cons, List.length_nil, List.replicate_zero, List.replicate_succ, List.getElem?_cons_zero, List.getElem?_cons_succ, List.set_cons_zero, List.set_cons_succ, List.all_cons, List.all_nil, Bool.and_true, Bool.true_and, Nat.sub_self, Nat.add_sub_cancel_left, zeroNat, if_true, reduceCtorEq, true_and, and_true, ite_true, ite_false, Bool.false_eq_true, if_false, Nat.reduceAdd, Nat.reduceSub, Nat.reduceLT, Nat.zero_add, List.all, Bool.and_self, Int.reduceToNat, List.reduceReplicate, List.flatten_cons, List.flatten_nil, eq_self, permD, List.getD_cons_zero, List.getD_cons_succ, sIx21, List.take_succ_cons, List.take_zero, Nat.reduceLeDiff, and_self, decide_true, decide_false, Bool.not_true, Bool.not_false, rest_cons]
    exact ⟨by decide, hl m x y W _ c hy' ⟨rfl, hQ⟩⟩
  · simp only [fd_ratio, c, ↓w_for, ↓w_lc, b_add, b_addT, b_addL, b_sub, b_mul, b_mulL, b_mulT, b_fdiv, b_mod, b_pow, c_lt, c_le, c_gt, c_ge, c_eq, c_ne, c_eqS, c_neS, c_eq_tup, c_ne_tup, c_eq_lst, c_ne_lst, c_eq_bl, c_ne_bl, c_inT, c_ninT, i_int, i_intB, i_abs, i_dm, i_len_tup, i_len_lst, i_len_scr, i_max, i_min, i_gcd, i_isqrt, i_tuple1_tup, i_tuple1_lst, i_list1_tup, i_list1_lst, i_all, i_any, i_sum, i_repr_tup, i_repr_lst, i_repr_bl, i_repr_int, y_bl, y_int, y_str, y_tup, y_lst, y_non, it_tup, it_lst, it_scr, t_bl, t_int, t_tup, t_lst, t_non, w_cons, w_nil, wpS, wpE, wpEs, wpG, wpGs, wpI, wpT, startD, nb_fr, view_fr, it_fr, nb_int, nb_tup, nb_bl, nb_str, nb_lst, nb_scr, nb_non, nb_cell, nbs, g_name, g_tup, gsets, wipeD, noOw, itOk, view_int, view_tup, view_bl, view_str, view_lst, view_scr, view_non, at0, at1, at2, at3, ix0, ix1, ix2, tgN, List.map_cons, List.map_nil, List.append_nil, List.nil_append, List.cons_append, List.length_cons, List.length_nil, List.replicate_zero, List.replicate_succ, List.getElem?_cons_zero, List.getElem?_cons_succ, List.set_cons_zero, List.set_cons_succ, List.all_cons, List.all_nil, Bool.and_true, Bool.true_and, Nat.sub_self, Nat.add_sub_cancel_left, zeroNat, if_true, reduceCtorEq, true_and, and_true, ite_true, ite_false, Bool.false_eq_true, if_false, Nat.reduceAdd, Nat.reduceSub, Nat.reduceLT, Nat.zero_add, List.all, Bool.and_self, Int.reduceToNat, List.reduceReplicate, List.flatten_cons, List.flatten_nil, eq_self, permD, List.getD_cons_zero, List.getD_cons_succ, sIx21, List.take_succ_cons, List.take_zero, Nat.reduceLeDiff, and_self, decide_true, decide_false, Bool.not_true, Bool.not_false, rest_cons]
    refine ⟨by decide, hl m (-x) (-y) W _ (by omega) hy'.neg ?_⟩
    rw [divInt_flip]
    exact ⟨rfl, hQ⟩
theorem isWhs_two {d : D} (h : isWhs 2 d = true) : ∃ a b, d = .tup [.int a, .int b] := by
  cases d with
  | tup xs =>
    simp only [isWhs, Bool.and_eq_true, decide_eq_true_eq] at h
    match xs, h with
    | [x, y], ⟨_, h⟩ =>
      simp only [List.all_cons, List.all_nil, Bool.and_eq_true] at h
      cases x <;> first | (simp [isWh] at h; done) | (cases y <;> first | (simp [isWh] at h; done) | exact ⟨_, _, rfl⟩)
    | [], ⟨h, _⟩ => simp at h
    | [_], ⟨h, _⟩ => simp at h
    | _ :: _ :: _ :: _, ⟨h, _⟩ => simp at h; omega
  | _ => simp [isWhs] at h
theorem isRat_not {d : D} (h : isWhs 2 d = false) : isRat d = false := by
  unfold isRat
  split
  · simp [isWhs, isWh] at h
  · rfl
theorem isratio_ok (ha : SWholes fs cs n j) (hd : SDiv fs cs n j2) (h : fs[i]? = some (fd_is_ratio j j2)) : STest fs cs (n + 1) i isRat := by
  intro m d W Q hp hQ
  refine wpC_step h rfl ?_
  simp only [fd_is_ratio, plain_nb hp, ↓w_for, ↓w_lc, b_add, b_addT, b_addL, b_sub, b_mul, b_mulL, b_mulT, b_fdiv, b_mod, b_pow, c_lt, c_le, c_gt, c_ge, c_eq, c_ne, c_eqS, c_neS, c_eq_tup, c_ne_tup, c_eq_lst, c_ne_lst, c_eq_bl, c_ne_bl, c_inT, c_ninT, i_int, i_intB, i_abs, i_dm, i_len_tup, i_len_lst, i_len_scr, i_max, i_min, i_gcd, i_isqrt, i_tuple1_tup, i_tuple1_lst, i_list1_tup, i_list1_lst, i_all, i_any, i_sum, i_repr_tup, i_repr_lst, i_repr_bl, i_repr_int, y_bl, y_int, y_str, y_tup, y_lst, y_non, it_tup, it_lst, it_scr, t_bl, t_int, t_tup, t_lst, t_non, w_cons, w_nil, wpS, wpE, wpEs, wpG, wpGs, wpI, wpT, startD, nb_fr, view_fr, it_fr, nb_int, nb_tup, nb_bl, nb_str, nb_lst, nb_scr, nb_non, nb_cell, nbs, g_name, g_tup, gsets, wipeD, noOw, itOk, view_int, view_tup, view_bl, view_str, view_lst, view_scr, view_non, at0, at1, at2, at3, ix0, ix1, ix2, tgN, List.map_cons, List.map_nil, List.append_nil, List.nil_append, List.cons_append, List.length_cons, List.length_nil, List.replicate_zero, List.replicate_succ, List.getElem?_cons_zero, List.getElem?_cons_succ, List.set_cons_zero, List.set_cons_succ, List.all_cons, List.all_nil, Bool.and_true, Bool.true_and, Nat.sub_self, Nat.add_sub_cancel_left, zeroNat, if_true, reduceCtorEq, true_and, and_true, ite_true, ite_false, Bool.false_eq_true, if_false, Nat.reduceAdd, Nat.reduceSub, Nat.reduceLT, Nat.zero_add, List.all, Bool.and_self, Int.reduceToNat, List.reduceReplicate, List.flatten_cons, List.flatten_nil, eq_self, permD, List.getD_cons_zero, List.getD_cons_succ, sIx21, List.take_succ_cons, List.take_zero, Nat.reduceLeDiff, and_self, decide_true, decide_false, Bool.not_true, Bool.not_false, rest_cons]
  refine ha m d 2 W _ hp (by decide) ?_
  cases e : isWhs 2 d with
  | false =>
    rw [isRat_not e] at hQ
    simp only [↓w_for, ↓w_lc, b_add, b_addT, b_addL, b_sub, b_mul, b_mulL, b_mulT, b_fdiv, b_mod, b_pow, c_lt, c_le, c_gt, c_ge, c_eq, c_ne, c_eqS, c_neS, c_eq_tup, c_ne_tup, c_eq_lst, c_ne_lst, c_eq_bl, c_ne_bl, c_inT, c_ninT, i_int, i_intB, i_abs, i_dm, i_len_tup, i_len_lst, i_len_scr, i_max, i_min, i_gcd, i_isqrt, i_tuple1_tup, i_tuple1_lst, i_list1_tup, i_list1_lst, i_all, i_any, i_sum, i_repr_tup, i_repr_lst, i_repr_bl, i_repr_int, y_bl, y_int, y_str, y_tup, y_lst, y_non, it_tup, it_lst, it_scr, t_bl, t_int, t_tup, t_lst, t_non, w_cons, w_nil, wpS, wpE, wpEs, wpG, wpGs, wpI, wpT, startD, nb_fr, view_fr, it_fr, nb_int, nb_tup, nb_bl, nb_str, nb_lst, nb_scr, nb_non, nb_cell, nbs, g_name, g_tup, gsets, wipeD, noOw, itOk, view_int, view_tup, view_bl, view_str, view_lst, view_scr, view_non, at0, at1, at2, at3, ix0, ix1, ix2, tgN, List.map_cons, List.map_nil, List.append_nil, List.nil_append, List.cons_append, List.length_cons, List.length_nil, List.replicate_zero, List.replicate_succ, List.getElem?_cons_zero, List.getElem?_cons_succ, List.set_cons_zero, List.set_cons_succ, List.all_cons, List.all_nil, Bool.and_true, Bool.true_and, Nat.sub_self, Nat.add_sub_cancel_left, zeroNat, if_true, reduceCtorEq, true_and, and_true, ite_true, ite_false, Bool.false_eq_true, if_false, Nat.reduceAdd, Nat.reduceSub, Nat.reduceLT, Nat.zero_add, List.all, Bool.and_self, Int.reduceToNat, List.reduceReplicate, List.flatten_cons, List.flatten_nil, eq_self, permD, List.getD_cons_zero, List.getD_cons_succ, sIx21, List.take_succ_cons, List.take_zero, Nat.reduceLeDiff, and_self, decide_true, decide_false, Bool.not_true, Bool.not_false, rest_cons]
    exact hQ
  | true =>
    obtain ⟨a, b, rfl⟩ := isWhs_two e
    simp only [isRat] at hQ
    simp only [↓w_for, ↓w_lc, b_add, b_addT, b_addL, b_sub, b_mul, b_mulL, b_mulT, b_fdiv, b_mod, b_pow, c_lt, c_le, c_gt, c_ge, c_eq, c_ne, c_eqS, c_neS, c_eq_tup, c_ne_tup, c_eq_lst, c_ne_lst, c_eq_bl, c_ne_bl, c_inT, c_ninT, i_int, i_intB, i_abs, i_dm, i_len_tup, i_len_lst, i_len_scr, i_max, i_min, i_gcd, i_isqrt, i_tuple1_tup, i_tuple1_lst, i_list1_tup, i_list1_lst, i_all, i_any, i_sum, i_repr_tup, i_repr_lst, i_repr_bl, i_repr_int, y_bl, y_int, y_str, y_tup, y_lst, y_non, it_tup, it_lst, it_scr, t_bl, t_int, t_tup, t_lst, t_non, w_cons, w_nil, wpS, wpE, wpEs, wpG, wpGs, wpI, wpT, startD, nb_fr, view_fr, it_fr, nb_int, nb_tup, nb_bl, nb_str, nb_lst, nb_scr, nb_non, nb_cell, nbs, g_name, g_tup, gsets, wipeD, noOw, itOk, view_int, view_tup, view_bl, view_str, view_lst, view_scr, view_non, at0, at1, at2, at3, ix0, ix1, ix2, tgN, List.map_cons, List.map_nil, List.append_nil, List.nil_append, List.cons_append, List.length_cons, List.length_nil, List.replicate_zero, List.replicate_succ, List.getElem?_cons_zero, List.getElem?_cons_succ, List.set_cons_zero, List.set_cons_succ, List.all_cons, List.all_nil, Bool.and_true, Bool.true_and, Nat.sub_self, Nat.add_sub_cancel_left, zeroNat, if_true, reduceCtorEq, true_and, and_true, ite_true, ite_false, Bool.false_eq_true, if_false, Nat.reduceAdd, Nat.reduceSub, Nat.reduceLT, Nat.zero_add, List.all, Bool.and_self, Int.reduceToNat, List.reduceReplicate, List.flatten_cons, List.flatten_nil, eq_self, permD, List.getD_cons_zero, List.getD_cons_succ, sIx21, List.take_succ_cons, List.take_zero, Nat.reduceLeDiff, and_self, decide_true, decide_false, Bool.not_true, Bool.not_false, rest_cons]
    by_cases c : 0 < b
    · simp only [c, ↓w_for, ↓w_lc, b_add, b_addT, b_addL, b_sub, b_mul, b_mulL, b_mulT, b_fdiv, b_mod, b_pow, c_lt, c_le, c_gt, c_ge, c_eq, c_ne, c_eqS, c_neS, c_eq_tup, c_ne_tup, c_eq_lst, c_ne_lst, c_eq_bl, c_ne_bl, c_inT, c_ninT, i_int, i_intB, i_abs, i_dm, i_len_tup, i_len_lst, i_len_scr, i_max, i_min, i_gcd, i_isqrt, i_tuple1_tup, i_tuple1_lst, i_list1_tup, i_list1_lst, i_all, i_any, i_sum, i_repr_tup, i_repr_lst, i_repr_bl, i_repr_int, y_bl, y_int, y_str, y_tup, y_lst, y_non, it_tup, it_lst, it_scr, t_bl, t_int, t_tup, t_lst, t_non, w_cons, w_nil, wpS, wpE, wpEs, wpG, wpGs, wpI, wpT, startD, nb_fr, view_fr, it_fr, nb_int, nb_tup, nb_bl, nb_str, nb_lst, nb_scr, nb_non, nb_cell, nbs, g_name, g_tup, gsets, wipeD, noOw, itOk, view_int, view_tup, view_bl, view_str, view_lst, view_scr, view_non, at0, at1, at2, at3, ix0, ix1, ix2, tgN, List.map_cons, List.map_nil, List.append_nil, List.nil_append, List.cons_append, List.length_cons, List.length_nil, List.replicate_zero, List.replicate_succ, List.getElem?_cons_zero, List.getElem?_cons_succ, List.set_cons_zero, List.set_cons_succ, List.all_cons, List.all_nil, Bool.and_true, Bool.true_and, Nat.sub_self, Nat.add_sub_cancel_left, zeroNat, if_true, reduceCtorEq, true_and, and_true, ite_true, ite_false, Bool.false_eq_true, if_false, Nat.reduceAdd, Nat.reduceSub, Nat.reduceLT, Nat.zero_add, List.all, Bool.and_self, Int.reduceToNat, List.reduceReplicate, List.flatten_cons, List.flatten_nil, eq_self, permD, List.getD_cons_zero, List.getD_cons_succ, sIx21, List.take_succ_cons, List.take_zero, Nat.reduceLeDiff, and_self, decide_true, decide_false, Bool.not_true, Bool.not_false, rest_cons] at hQ ⊢
      refine hd m [a, b] W _ ?_
      rw [gcds_two]
      have e2 : (((Int.gcd a b : Nat) : Int) = 1) = (Nat.gcd a.natAbs b.natAbs = 1) := by
        apply propext
        show ((Nat.gcd a.natAbs b.natAbs : Nat) : Int) = 1 ↔ _
        omega
      simp only [↓w_for, ↓w_lc, b_add, b_addT, b_addL, b_sub, b_mul, b_mulL, b_mulT, b_fdiv, b_mod, b_pow, c_lt, c_le, c_gt, c_ge, c_eq, c_ne, c_eqS, c_neS, c_eq_tup, c_ne_tup, c_eq_lst, c_ne_lst, c_eq_bl, c_ne_bl, c_inT, c_ninT, i_int, i_intB, i_abs, i_dm, i_len_tup, i_len_lst, i_len_scr, i_max, i_min, i_gcd, i_isqrt, i_tuple1_tup, i_tuple1_lst, i_list1_tup, i_list1_lst, i_all, i_any, i_sum, i_repr_tup, i_repr_lst, i_repr_bl, i_repr_int, y_bl, y_int, y_str, y_tup, y_lst, y_non, it_tup, it_lst, it_scr, t_bl, t_int, t_tup, t_lst, t_non, w_cons, w_nil, wpS, wpE, wpEs, wpG, wpGs, wpI, wpT, startD, nb_fr, view_fr, it_fr, nb_int, nb_tup, nb_bl, nb_str, nb_lst, nb_scr, nb_non, nb_cell, nbs, g_name, g_tup, gsets, wipeD, noOw, itOk, view_int, view_tup, view_bl, view_str, view_lst, view_scr, view_non, at0, at1, at2, at3, ix0, ix1, ix2, tgN, List.map_cons, List.map_nil, List.append_nil, List.nil_append, List.cons_append, List.length_cons, List.length_nil, List.replicate_zero, List.replicate_succ, List.getElem?_cons_zero, List.getElem?_cons_succ, List.set_cons_zero, List.set_cons_succ, List.all_cons, List.all_nil, Bool.and_true, Bool.true_and, Nat.sub_self, Nat.add_sub_cancel_left, zeroNat, if_true, reduceCtorEq, true_and, and_true, ite_true, ite_false, Bool.false_eq_true, if_false, Nat.reduceAdd, Nat.reduceSub, Nat.reduceLT, Nat.zero_add, List.all, Bool.and_self, Int.reduceToNat, List.reduceReplicate, List.flatten_cons, List.flatten_nil, eq_self, permD, List.getD_cons_zero, List.getD_cons_succ, sIx21, List.take_succ_cons, List.take_zero, Nat.reduceLeDiff, and_self, decide_true, decide_false, Bool.not_true, Bool.not_false, rest_cons]
      simp only [e2]
      exact hQ
    · simp only [c, ↓w_for, ↓w_lc, b_add, b_addT, b_addL, b_sub, b_mul, b_mulL, b_mulT, b_fdiv, b_mod, b_pow, c_lt, c_le, c_gt, c_ge, c_eq, c_ne, c_eqS, c_neS, c_eq_tup, c_ne_tup, c_eq_lst, c_ne_lst, c_eq_bl, c_ne_bl, c_inT, c_ninT, i_int, i_intB, i_abs, i_dm, i_len_tup, i_len_lst, i_len_scr, i_max, i_min, i_gcd, i_isqrt, i_tuple1_tup, i_tuple1_lst, i_list1_tup, i_list1_lst, i_all, i_any, i_sum, i_repr_tup, i_repr_lst, i_repr_bl, i_repr_int, y_bl, y_int, y_str, y_tup, y_lst, y_non, it_tup, it_lst, it_scr, t_bl, t_int, t_tup, t_lst, t_non, w_cons, w_nil, wpS, wpE, wpEs, wpG, wpGs, wpI, wpT, startD, nb_fr, view_fr, it_fr, nb_int, nb_tup, nb_bl, nb_str, nb_lst, nb_scr, nb_non, nb_cell, nbs, g_name, g_tup, gsets, wipeD, noOw, itOk, view_int, view_tup, view_bl, view_str, view_lst, view_scr, view_non, at0, at1, at2, at3, ix0, ix1, ix2, tgN, List.map_cons, List.map_nil, List.append_nil, List.nil_append, List.cons_append, List.length_cons, List.length_nil, List.replicate_zero, List.replicate_succ, List.getElem?_cons_zero, List.getElem?_cons_succ, List.set_cons_zero, List.set_cons_succ, List.all_cons, List.all_nil, Bool.and_true, Bool.true_and, Nat.sub_self, Nat.add_sub_cancel_left, zeroNat, if_true, reduceCtorEq, true_and, and_true, ite_true, ite_false, Bool.false_eq_true, if_false, Nat.reduceAdd, Nat.reduceSub, Nat.reduceLT, Nat.zero_add, List.all, Bool.and_self, Int.reduceToNat, List.reduceReplicate, List.flatten_cons, List.flatten_nil, eq_self, permD, List.getD_cons_zero, List.getD_cons_succ, sIx21, List.take_succ_cons, List.take_zero, Nat.reduceLeDiff, and_self, decide_true, decide_false, Bool.not_true, Bool.not_false, rest_cons, Bool.false_and] at hQ ⊢
      exact hQ
def isFrom (d : D) : Bool := isRat d && (match d with
  | .tup [.int a, _] => decide (0 ≤ a)
  | _ => false)
theorem isFrom_fr {q : Rat} (h : 0 ≤ q) : isFrom (fr q) = true := by
  unfold isFrom
  rw [isRat_fr]
  exact decide_eq_true ((nonneg_iff q).mp h)
theorem isRat_is {d : D} (h : isRat d = true) : ∃ a b, d = .tup [.int a, .int b] := by
  unfold isRat at h
  split at h
  · exact ⟨_, _, rfl⟩
  · cases h
theorem isfrom_ok (hr : STest fs cs n j isRat) (h : fs[i]? = some (fd_is_from_nought j)) : STest fs cs (n + 1) i isFrom := by
  intro m d W Q hp hQ
  refine wpC_step h rfl ?_
  simp only [fd_is_from_nought, plain_nb hp, ↓w_for, ↓w_lc, b_add, b_addT, b_addL, b_sub, b_mul, b_mulL, b_mulT, b_fdiv, b_mod, b_pow, c_lt, c_le, c_gt, c_ge, c_eq, c_ne, c_eqS, c_neS, c_eq_tup, c_ne_tup, c_eq_lst, c_ne_lst, c_eq_bl, c_ne_bl, c_inT, c_ninT, i_int, i_intB, i_abs, i_dm, i_len_tup, i_len_lst, i_len_scr, i_max, i_min, i_gcd, i_isqrt, i_tuple1_tup, i_tuple1_lst, i_list1_tup, i_list1_lst, i_all, i_any, i_sum, i_repr_tup, i_repr_lst, i_repr_bl, i_repr_int, y_bl, y_int, y_str, y_tup, y_lst, y_non, it_tup, it_lst, it_scr, t_bl, t_int, t_tup, t_lst, t_non, w_cons, w_nil, wpS, wpE, wpEs, wpG, wpGs, wpI, wpT, startD, nb_fr, view_fr, it_fr, nb_int, nb_tup, nb_bl, nb_str, nb_lst, nb_scr, nb_non, nb_cell, nbs, g_name, g_tup, gsets, wipeD, noOw, itOk, view_int, view_tup, view_bl, view_str, view_lst, view_scr, view_non, at0, at1, at2, at3, ix0, ix1, ix2, tgN, List.map_cons, List.map_nil, List.append_nil, List.nil_append, List.cons_append, List.length_cons, List.length_nil, List.replicate_zero, List.replicate_succ, List.getElem?_cons_zero, List.getElem?_cons_succ, List.set_cons_zero, List.set_cons_succ, List.all_cons, List.all_nil, Bool.and_true, Bool.true_and, Nat.sub_self, Nat.add_sub_cancel_left, zeroNat, if_true, reduceCtorEq, true_and, and_true, ite_true, ite_false, Bool.false_eq_true, if_false, Nat.reduceAdd, Nat.reduceSub, Nat.reduceLT, Nat.zero_add, List.all, Bool.and_self, Int.reduceToNat, List.reduceReplicate, List.flatten_cons, List.flatten_nil, eq_self, permD, List.getD_cons_zero, List.getD_cons_succ, sIx21, List.take_succ_cons, List.take_zero, Nat.reduceLeDiff, and_self, decide_true, decide_false, Bool.not_true, Bool.not_false, rest_cons]
  refine hr m d W _ hp ?_
  unfold isFrom at hQ
  cases e : isRat d with
  | false =>
    simp only [e, Bool.false_and] at hQ
    simp only [↓w_for, ↓w_lc, b_add, b_addT, b_addL, b_sub, b_mul, b_mulL, b_mulT, b_fdiv, b_mod, b_pow, c_lt, c_le, c_gt, c_ge, c_eq, c_ne, c_eqS, c_neS, c_eq_tup, c_ne_tup, c_eq_lst, c_ne_lst, c_eq_bl, c_ne_bl, c_inT, c_ninT, i_int, i_intB, i_abs, i_dm, i_len_tup, i_len_lst, i_len_scr, i_max, i_min, i_gcd, i_isqrt, i_tuple1_tup, i_tuple1_lst, i_list1_tup, i_list1_lst, i_all, i_any, i_sum, i_repr_tup, i_repr_lst, i_repr_bl, i_repr_int, y_bl, y_int, y_str, y_tup, y_lst, y_non, it_tup, it_lst, it_scr, t_bl, t_int, t_tup, t_lst, t_non, w_cons, w_nil, wpS, wpE, wpEs, wpG, wpGs, wpI, wpT, startD, nb_fr, view_fr, it_fr, nb_int, nb_tup, nb_bl, nb_str, nb_lst, nb_scr, nb_non, nb_cell, nbs, g_name, g_tup, gsets, wipeD, noOw, itOk, view_int, view_tup, view_bl, view_str, view_lst, view_scr, view_non, at0, at1, at2, at3, ix0, ix1, ix2, tgN, List.map_cons, List.map_nil, List.append_nil, List.nil_append, List.cons_append, List.length_cons, List.length_nil, List.replicate_zero, List.replicate_succ, List.getElem?_cons_zero, List.getElem?_cons_succ, List.set_cons_zero, List.set_cons_succ, List.all_cons, List.all_nil, Bool.and_true, Bool.true_and, Nat.sub_self, Nat.add_sub_cancel_left, zeroNat, if_true, reduceCtorEq, true_and, and_true, ite_true, ite_false, Bool.false_eq_true, if_false, Nat.reduceAdd, Nat.reduceSub, Nat.reduceLT, Nat.zero_add, List.all, Bool.and_self, Int.reduceToNat, List.reduceReplicate, List.flatten_cons, List.flatten_nil, eq_self, permD, List.getD_cons_zero, List.getD_cons_succ, sIx21, List.take_succ_cons, List.take_zero, Nat.reduceLeDiff, and_self, decide_true, decide_false, Bool.not_true, Bool.not_false, rest_cons]
    exact hQ
  | true =>
    obtain ⟨a, b, rfl⟩ := isRat_is e
    simp only [e, ↓w_for, ↓w_lc, b_add, b_addT, b_addL, b_sub, b_mul, b_mulL, b_mulT, b_fdiv, b_mod, b_pow, c_lt, c_le, c_gt, c_ge, c_eq, c_ne, c_eqS, c_neS, c_eq_tup, c_ne_tup, c_eq_lst, c_ne_lst, c_eq_bl, c_ne_bl, c_inT, c_ninT, i_int, i_intB, i_abs, i_dm, i_len_tup, i_len_lst, i_len_scr, i_max, i_min, i_gcd, i_isqrt, i_tuple1_tup, i_tuple1_lst, i_list1_tup, i_list1_lst, i_all, i_any, i_sum, i_repr_tup, i_repr_lst, i_repr_bl, i_repr_int, y_bl, y_int, y_str, y_tup, y_lst, y_non, it_tup, it_lst, it_scr, t_bl, t_int, t_tup, t_lst, t_non, w_cons, w_nil, wpS, wpE, wpEs, wpG, wpGs, wpI, wpT, startD, nb_fr, view_fr, it_fr, nb_int, nb_tup, nb_bl, nb_str, nb_lst, nb_scr, nb_non, nb_cell, nbs, g_name, g_tup, gsets, wipeD, noOw, itOk, view_int, view_tup, view_bl, view_str, view_lst, view_scr, view_non, at0, at1, at2, at3, ix0, ix1, ix2, tgN, List.map_cons, List.map_nil, List.append_nil, List.nil_append, List.cons_append, List.length_cons, List.length_nil, List.replicate_zero, List.replicate_succ, List.getElem?_cons_zero, List.getElem?_cons_succ, List.set_cons_zero, List.set_cons_succ, List.all_cons, List.all_nil, Bool.and_true, Bool.true_and, Nat.sub_self, Nat.add_sub_cancel_left, zeroNat, if_true, reduceCtorEq, true_and, and_true, ite_true, ite_false, Bool.false_eq_true, if_false, Nat.reduceAdd, Nat.reduceSub, Nat.reduceLT, Nat.zero_add, List.all, Bool.and_self, Int.reduceToNat, List.reduceReplicate, List.flatten_cons, List.flatten_nil, eq_self, permD, List.getD_cons_zero, List.getD_cons_succ, sIx21, List.take_succ_cons, List.take_zero, Nat.reduceLeDiff, and_self, decide_true, decide_false, Bool.not_true, Bool.not_false, rest_cons] at hQ
    simp only [↓w_for, ↓w_lc, b_add, b_addT, b_addL, b_sub, b_mul, b_mulL, b_mulT, b_fdiv, b_mod, b_pow, c_lt, c_le, c_gt, c_ge, c_eq, c_ne, c_eqS, c_neS, c_eq_tup, c_ne_tup, c_eq_lst, c_ne_lst, c_eq_bl, c_ne_bl, c_inT, c_ninT, i_int, i_intB, i_abs, i_dm, i_len_tup, i_len_lst, i_len_scr, i_max, i_min, i_gcd, i_isqrt, i_tuple1_tup, i_tuple1_lst, i_list1_tup, i_list1_lst, i_all, i_any, i_sum, i_repr_tup, i_repr_lst, i_repr_bl, i_repr_int, y_bl, y_int, y_str, y_tup, y_lst, y_non, it_tup, it_lst, it_scr, t_bl, t_int, t_tup, t_lst, t_non, w_cons, w_nil, wpS, wpE, wpEs, wpG, wpGs, wpI, wpT, startD, nb_fr, view_fr, it_fr, nb_int, nb_tup, nb_bl, nb_str, nb_lst, nb_scr, nb_non, nb_cell, nbs, g_name, g_tup, gsets, wipeD, noOw, itOk, view_int, view_tup, view_bl, view_str, view_lst, view_scr, view_non, at0, at1, at2, at3, ix0, ix1, ix2, tgN, List.map_cons, List.map_nil, List.append_nil, List.nil_append, List.cons_append, List.length_cons, List.length_nil, List.replicate_zero, List.replicate_succ, List.getElem?_cons_zero, List.getElem?_cons_succ, List.set_cons_zero, List.set_cons_succ, List.all_cons, List.all_nil, Bool.and_true, Bool.true_and, Nat.sub_self, Nat.add_sub_cancel_left, zeroNat, if_true, reduceCtorEq, true_and, and_true, ite_true, ite_false, Bool.false_eq_true, if_false, Nat.reduceAdd, Nat.reduceSub, Nat.reduceLT, Nat.zero_add, List.all, Bool.and_self, Int.reduceToNat, List.reduceReplicate, List.flatten_cons, List.flatten_nil, eq_self, permD, List.getD_cons_zero, List.getD_cons_succ, sIx21, List.take_succ_cons, List.take_zero, Nat.reduceLeDiff, and_self, decide_true, decide_false, Bool.not_true, Bool.not_false, rest_cons]
    exact hQ
theorem size_ok (h : fs[i]? = some fd_size_of) : SSize fs cs 1 i := by
  intro m x W Q hQ
  refine wpC_step h rfl ?_
  rw [fr_abs] at hQ
  simp only [fd_size_of, fr, ↓w_for, ↓w_lc, b_add, b_addT, b_addL, b_sub, b_mul, b_mulL, b_mulT, b_fdiv, b_mod, b_pow, c_lt, c_le, c_gt, c_ge, c_eq, c_ne, c_eqS, c_neS, c_eq_tup, c_ne_tup, c_eq_lst, c_ne_lst, c_eq_bl, c_ne_bl, c_inT, c_ninT, i_int, i_intB, i_abs, i_dm, i_len_tup, i_len_lst, i_len_scr, i_max, i_min, i_gcd, i_isqrt, i_tuple1_tup, i_tuple1_lst, i_list1_tup, i_list1_lst, i_all, i_any, i_sum, i_repr_tup, i_repr_lst, i_repr_bl, i_repr_int, y_bl, y_int, y_str, y_tup, y_lst, y_non, it_tup, it_lst, it_scr, t_bl, t_int, t_tup, t_lst, t_non, w_cons, w_nil, wpS, wpE, wpEs, wpG, wpGs, wpI, wpT, startD, nb_fr, view_fr, it_fr, nb_int, nb_tup, nb_bl, nb_str, nb_lst, nb_scr, nb_non, nb_cell, nbs, g_name, g_tup, gsets, wipeD, noOw, itOk, view_int, view_tup, view_bl, view_str, view_lst, view_scr, view_non, at0, at1, at2, at3, ix0, ix1, ix2, tgN, List.map_cons, List.map_nil, List.append_nil, List.nil_append, List.cons_append, List.length_cons, List.length_nil, List.replicate_zero, List.replicate_succ, List.getElem?_cons_zero, List.getElem?_cons_succ, List.set_cons_zero, List.set_cons_succ, List.all_cons, List.all_nil, Bool.and_true, Bool.true_and, Nat.sub_self, Nat.add_sub_cancel_left, zeroNat, if_true, reduceCtorEq, true_and, and_true, ite_true, ite_false, Bool.false_eq_true, if_false, Nat.reduceAdd, Nat.reduceSub, Nat.reduceLT, Nat.zero_add, List.all, Bool.and_self, Int.reduceToNat, List.reduceReplicate, List.flatten_cons, List.flatten_nil, eq_self, permD, List.getD_cons_zero, List.getD_cons_succ, sIx21, List.take_succ_cons, List.take_zero, Nat.reduceLeDiff, and_self, decide_true, decide_false, Bool.not_true, Bool.not_false, rest_cons]
  exact ⟨by decide, hQ⟩
theorem below_ok (h : fs[i]? = some fd_is_below) : SBelow fs cs 1 i := by
  intro m x y b c W Q hx hy hb hQ
  refine wpC_step h rfl ?_
  simp only [fd_is_below, fr, ↓w_for, ↓w_lc, b_add, b_addT, b_addL, b_sub, b_mul, b_mulL, b_mulT, b_fdiv, b_mod, b_pow, c_lt, c_le, c_gt, c_ge, c_eq, c_ne, c_eqS, c_neS, c_eq_tup, c_ne_tup, c_eq_lst, c_ne_lst, c_eq_bl, c_ne_bl, c_inT, c_ninT, i_int, i_intB, i_abs, i_dm, i_len_tup, i_len_lst, i_len_scr, i_max, i_min, i_gcd, i_isqrt, i_tuple1_tup, i_tuple1_lst, i_list1_tup, i_list1_lst, i_all, i_any, i_sum, i_repr_tup, i_repr_lst, i_repr_bl, i_repr_int, y_bl, y_int, y_str, y_tup, y_lst, y_non, it_tup, it_lst, it_scr, t_bl, t_int, t_tup, t_lst, t_non, w_cons, w_nil, wpS, wpE, wpEs, wpG, wpGs, wpI, wpT, startD, nb_fr, view_fr, it_fr, nb_int, nb_tup, nb_bl, nb_str, nb_lst, nb_scr, nb_non, nb_cell, nbs, g_name, g_tup, gsets, wipeD, noOw, itOk, view_int, view_tup, view_bl, view_str, view_lst, view_scr, view_non, at0, at1, at2, at3, ix0, ix1, ix2, tgN, List.map_cons, List.map_nil, List.append_nil, List.nil_append, List.cons_append, List.length_cons, List.length_nil, List.replicate_zero, List.replicate_succ, List.getElem?_cons_zero, List.getElem?_cons_succ, List.set_cons_zero, List.set_cons_succ, List.all_cons, List.all_nil, Bool.and_true, Bool.true_and, Nat.sub_self, Nat.add_sub_cancel_left, zeroNat, if_true, reduceCtorEq, true_and, and_true, ite_true, ite_false, Bool.false_eq_true, if_false, Nat.reduceAdd, Nat.reduceSub, Nat.reduceLT, Nat.zero_add, List.all, Bool.and_self, Int.reduceToNat, List.reduceReplicate, List.flatten_cons, List.flatten_nil, eq_self, permD, List.getD_cons_zero, List.getD_cons_succ, sIx21, List.take_succ_cons, List.take_zero, Nat.reduceLeDiff, and_self, decide_true, decide_false, Bool.not_true, Bool.not_false, rest_cons]
  refine ⟨hx.1.cmul hy.2 (by omega), hy.1.cmul hx.2 (by omega), ?_⟩
  have e : (x < y) = (x.num * y.den < y.num * x.den) := propext (Rat.lt_iff x y)
  simp only [e] at hQ
  exact hQ
end
end Bn

set_option Elab.async false
set_option linter.all false
set_option maxRecDepth 100000
/-! Bn, part 21: the helpers of the laws k20 to k46. -/
namespace Bn
open PySem L2
theorem view_cell {σ : Sl} {W : Ce} {k : Nat} {xs : List D} (h : W[k]? = some xs) : view σ W (.cell k) = .lst xs := by
  unfold view
  simp only [h]
theorem setCell_at {W : Ce} {k j : Nat} {xs : List D} {d : D} (h : W[k]? = some xs) (hj : j < xs.length) : setCell k (j : Int) d W = some (W.set k (xs.set j d)) := by
  unfold setCell
  simp only [h, ixN_nat hj]
  rfl
theorem set0 {W : Ce} {k : Nat} {x d : D} {l : List D} (h : W[k]? = some (x :: l)) : setCell k 0 d W = some (W.set k (d :: l)) := setCell_at (j := 0) h (by simp)
theorem set1 {W : Ce} {k : Nat} {x y d : D} {l : List D} (h : W[k]? = some (x :: y :: l)) : setCell k 1 d W = some (W.set k (x :: d :: l)) := setCell_at (j := 1) h (by simp)
theorem set2 {W : Ce} {k : Nat} {x y z d : D} {l : List D} (h : W[k]? = some (x :: y :: z :: l)) : setCell k 2 d W = some (W.set k (x :: y :: d :: l)) := setCell_at (j := 2) h (by simp)
theorem set_at {W : Ce} {k : Nat} {xs ys : List D} (h : W[k]? = some xs) : (W.set k ys)[k]? = some ys := by
  have hk : k < W.length := (List.getElem?_eq_some_iff.mp h).1
  exact List.getElem?_set_self hk
/-- a well: what is left of the deep figure, the seed, the turn; c more pulls are within reach -/
def Wl (k c : Nat) (W : Ce) : Prop := ∃ a b e : Int, W[k]? = some [.int a, .int b, .int e] ∧ 0 ≤ a ∧ 0 ≤ b ∧ b < 2147483648 ∧ 0 ≤ e ∧ e + c ≤ 1000000000000
theorem Wl.less {k c c' : Nat} {W : Ce} (h : Wl k c W) (l : c' ≤ c) : Wl k c' W := by
  obtain ⟨a, b, e, h1, h2, h3, h4, h5, h6⟩ := h
  exact ⟨a, b, e, h1, h2, h3, h4, h5, by omega⟩
section
variable (fs : List Fd) (cs : List D) (n i : Nat)
def SPull : Prop := ∀ (m k c : Nat) (y : Int) (W : Ce) (Q : D → Ce → Prop), Wl k (c + 1) W → 0 < y → y < 1000000000 → (∀ (r : Int) (W' : Ce), 0 ≤ r → r < y → Wl k c W' → Q (.int r) W') → wpC fs cs (m + n) i [.cell k, .int y] W Q
def SPick : Prop := ∀ (m k c : Nat) (xs : List D) (W : Ce) (Q : D → Ce → Prop), Wl k (c + 1) W → xs ≠ [] → xs.length < 1000 → (∀ x ∈ xs, x.nb = true) → (∀ (x : D) (W' : Ce), x ∈ xs → Wl k c W' → Q x W') → wpC fs cs (m + n) i [.cell k, .tup xs] W Q
def SCom : Prop := ∀ (m : Nat) (x y : Int) (b : Nat) (W : Ce) (Q : D → Ce → Prop), Sz b y → b ≤ 9000 → Q (.int (Int.gcd x y : Nat)) W → wpC fs cs (m + n) i [.int x, .int y] W Q
end
def fd_lpull : Fd := ⟨3, 2, .cons (.sif (.cmp .gt (.ix (.var 0) (.con (.int 0))) (.con (.int 0))) (.cons (.asg (.tup (.cons (.ix (.var 0) (.con (.int 0))) (.cons (.name 2) .nil))) (.bi .divmod (.cons (.ix (.var 0) (.con (.int 0))) (.cons (.var 1) .nil)))) (.cons (.ret (.var 2)) .nil)) (.nil)) (.cons (.asg (.ix (.var 0) (.con (.int 2))) (.bin .add (.ix (.var 0) (.con (.int 2))) (.con (.int 1)))) (.cons (.asg (.ix (.var 0) (.con (.int 1))) (.bin .mod (.bi .int1 (.cons (.bin .add (.bin .add (.bin .mul (.ix (.var 0) (.con (.int 1))) (.bin .add (.con (.int 45007)) (.bin .mul (.con (.int 14)) (.ix (.var 0) (.con (.int 2)))))) (.con (.int 30323))) (.bin .mul (.con (.int 5)) (.ix (.var 0) (.con (.int 2))))) .nil)) (.con (.int 2147483629)))) (.cons (.ret (.bin .mod (.bi .int1 (.cons (.bin .fdiv (.ix (.var 0) (.con (.int 1))) (.con (.int 217))) .nil)) (.var 1))) .nil)))⟩
def fd_lpick (p : Nat) : Fd := ⟨2, 2, .cons (.ret (.ix (.var 1) (.call p (.cons (.var 0) (.cons (.bi .len (.cons (.var 1) .nil)) .nil))))) .nil⟩
def fd_lcommon : Fd := ⟨3, 2, .cons (.par2 0 1 (.bi .abs (.cons (.var 0) .nil)) (.bi .abs (.cons (.var 1) .nil))) (.cons (.sfor (.rng1 (.bin .add (.bin .mul (.con (.int 2)) (.bits (.var 1))) (.con (.int 3)))) (.name 2) (.cons (.sif (.cmp .eq (.var 1) (.con (.int 0))) (.cons .brk .nil) (.nil)) (.cons (.par2 0 1 (.var 1) (.bin .mod (.bi .int1 (.cons (.var 0) .nil)) (.var 1))) .nil))) (.cons (.ret (.var 0)) .nil))⟩
def fd_lratio (c : Nat) : Fd := ⟨3, 2, .cons (.asg (.name 2) (.ite (.cmp .gt (.var 1) (.con (.int 0))) (.call c (.cons (.var 0) (.cons (.var 1) .nil))) (.bin .sub (.con (.int 0)) (.call c (.cons (.var 0) (.cons (.var 1) .nil)))))) (.cons (.ret (.tup (.cons (.bin .fdiv (.var 0) (.var 2)) (.cons (.bin .fdiv (.var 1) (.var 2)) .nil)))) .nil)⟩
section
variable {fs : List Fd} {cs : List D} {n i j j2 : Nat}
theorem lpull_ok (h : fs[i]? = some fd_lpull) : SPull fs cs 1 i := by
  intro m k c y W Q hw hy hy2 hQ
  obtain ⟨a, b, e, h1, h2, h3, h4, h5, h6⟩ := hw
  refine wpC_step h rfl ?_
  by_cases ha : 0 < a
  · simp only [fd_lpull, view_cell h1, ha, ↓w_for, ↓w_lc, b_add, b_addT, b_addL, b_sub, b_mul, b_mulL, b_mulT, b_fdiv, b_mod, b_pow, c_lt, c_le, c_gt, c_ge, c_eq, c_ne, c_eqS, c_neS, c_eq_tup, c_ne_tup, c_eq_lst, c_ne_lst, c_eq_bl, c_ne_bl, c_inT, c_ninT, i_int, i_intB, i_abs, i_dm, i_len_tup, i_len_lst, i_len_scr, i_max, i_min, i_gcd, i_isqrt, i_tuple1_tup, i_tuple1_lst, i_list1_tup, i_list1_lst, i_all, i_any, i_sum, i_repr_tup, i_repr_lst, i_repr_bl, i_repr_int, y_bl, y_int, y_str, y_tup, y_lst, y_non, it_tup, it_lst, it_scr, t_bl, t_int, t_tup, t_lst, t_non, w_cons, w_nil, wpS, wpE, wpEs, wpG, wpGs, wpI, wpT, startD, nb_fr, view_fr, it_fr, nb_int, nb_tup, nb_bl, nb_str, nb_lst, nb_scr, nb_non, nb_cell, nbs, g_name, g_tup, gsets, wipeD, noOw, itOk, view_int, view_tup, view_bl, view_str, view_lst, view_scr, view_non, at0, at1, at2, at3, ix0, ix1, ix2, tgN, List.map_cons, List.map_nil, List.append_nil, List.nil_append, List.cons_append, List.length_cons, List.length_nil, List.replicate_zero, List.replicate_succ, List.getElem?_cons_zero, List.getElem?_cons_succ, List.set_cons_zero, List.set_cons_succ, List.all_cons, List.all_nil, Bool.and_true, Bool.true_and, Nat.sub_self, Nat.add_sub_cancel_left, zeroNat, if_true, reduceCtorEq, true_and, and_true, ite_true, ite_false, Bool.false_eq_true, if_false, Nat.reduceAdd, Nat.reduceSub, Nat.reduceLT, Nat.zero_add, List.all, Bool.and_self, Int.reduceToNat, List.reduceReplicate, List.flatten_cons, List.flatten_nil, eq_self, permD, List.getD_cons_zero, List.getD_cons_succ, sIx21, List.take_succ_cons, List.take_zero, Nat.reduceLeDiff, and_self, decide_true, decide_false, Bool.not_true, Bool.not_false, rest_cons, set0 h1]
    refine ⟨⟨hy, by omega⟩, hQ _ _ (Int.emod_nonneg _ (by omega)) (Int.emod_lt_of_pos _ hy) ⟨a / y, b, e, set_at h1, Int.ediv_nonneg h2 (by omega), h3, h4, h5, by omega⟩⟩
  · have z1 := set_at (ys := [D.int a, D.int b, D.int (e + 1)]) h1
    simp only [fd_lpull, view_cell h1, ha, ↓w_for, ↓w_lc, b_add, b_addT, b_addL, b_sub, b_mul, b_mulL, b_mulT, b_fdiv, b_mod, b_pow, c_lt, c_le, c_gt, c_ge, c_eq, c_ne, c_eqS, c_neS, c_eq_tup, c_ne_tup, c_eq_lst, c_ne_lst, c_eq_bl, c_ne_bl, c_inT, c_ninT, i_int, i_intB, i_abs, i_dm, i_len_tup, i_len_lst, i_len_scr, i_max, i_min, i_gcd, i_isqrt, i_tuple1_tup, i_tuple1_lst, i_list1_tup, i_list1_lst, i_all, i_any, i_sum, i_repr_tup, i_repr_lst, i_repr_bl, i_repr_int, y_bl, y_int, y_str, y_tup, y_lst, y_non, it_tup, it_lst, it_scr, t_bl, t_int, t_tup, t_lst, t_non, w_cons, w_nil, wpS, wpE, wpEs, wpG, wpGs, wpI, wpT, startD, nb_fr, view_fr, it_fr, nb_int, nb_tup, nb_bl, nb_str, nb_lst, nb_scr, nb_non, nb_cell, nbs, g_name, g_tup, gsets, wipeD, noOw, itOk, view_int, view_tup, view_bl, view_str, view_lst, view_scr, view_non, at0, at1, at2, at3, ix0, ix1, ix2, tgN, List.map_cons, List.map_nil, List.append_nil, List.nil_append, List.cons_append, List.length_cons, List.length_nil, List.replicate_zero, List.replicate_succ, List.getElem?_cons_zero, List.getElem?_cons_succ, List.set_cons_zero, List.set_cons_succ, List.all_cons, List.all_nil, Bool.and_true, Bool.true_and, Nat.sub_self, Nat.add_sub_cancel_left, zeroNat, if_true, reduceCtorEq, true_and, and_true, ite_true, ite_false, Bool.false_eq_true, if_false, Nat.reduceAdd, Nat.reduceSub, Nat.reduceLT, Nat.zero_add, List.all, Bool.and_self, Int.reduceToNat, List.reduceReplicate, List.flatten_cons, List.flatten_nil, eq_self, permD, List.getD_cons_zero, List.getD_cons_succ, sIx21, List.take_succ_cons, List.take_zero, Nat.reduceLeDiff, and_self, decide_true, decide_false, Bool.not_true, Bool.not_false, rest_cons, set2 h1, view_cell z1, set1 z1]
    have z2 := set_at (ys := [D.int a, D.int ((b * (45007 + 14 * (e + 1)) + 30323 + 5 * (e + 1)).fmod 2147483629), D.int (e + 1)]) z1
    simp only [view_cell z2, ↓w_for, ↓w_lc, b_add, b_addT, b_addL, b_sub, b_mul, b_mulL, b_mulT, b_fdiv, b_mod, b_pow, c_lt, c_le, c_gt, c_ge, c_eq, c_ne, c_eqS, c_neS, c_eq_tup, c_ne_tup, c_eq_lst, c_ne_lst, c_eq_bl, c_ne_bl, c_inT, c_ninT, i_int, i_intB, i_abs, i_dm, i_len_tup, i_len_lst, i_len_scr, i_max, i_min, i_gcd, i_isqrt, i_tuple1_tup, i_tuple1_lst, i_list1_tup, i_list1_lst, i_all, i_any, i_sum, i_repr_tup, i_repr_lst, i_repr_bl, i_repr_int, y_bl, y_int, y_str, y_tup, y_lst, y_non, it_tup, it_lst, it_scr, t_bl, t_int, t_tup, t_lst, t_non, w_cons, w_nil, wpS, wpE, wpEs, wpG, wpGs, wpI, wpT, startD, nb_fr, view_fr, it_fr, nb_int, nb_tup, nb_bl, nb_str, nb_lst, nb_scr, nb_non, nb_cell, nbs, g_name, g_tup, gsets, wipeD, noOw, itOk, view_int, view_tup, view_bl, view_str, view_lst, view_scr, view_non, at0, at1, at2, at3, ix0, ix1, ix2, tgN, List.map_cons, List.map_nil, List.append_nil, List.nil_append, List.cons_append, List.length_cons, List.length_nil, List.replicate_zero, List.replicate_succ, List.getElem?_cons_zero, List.getElem?_cons_succ, List.set_cons_zero, List.set_cons_succ, List.all_cons, List.all_nil, Bool.and_true, Bool.true_and, Nat.sub_self, Nat.add_sub_cancel_left, zeroNat, if_true, reduceCtorEq, true_and, and_true, ite_true, ite_false, Bool.false_eq_true, if_false, Nat.reduceAdd, Nat.reduceSub, Nat.reduceLT, Nat.zero_add, List.all, Bool.and_self, Int.reduceToNat, List.reduceReplicate, List.flatten_cons, List.flatten_nil, eq_self, permD, List.getD_cons_zero, List.getD_cons_succ, sIx21, List.take_succ_cons, List.take_zero, Nat.reduceLeDiff, and_self, decide_true, decide_false, Bool.not_true, Bool.not_false, rest_cons]
    have sb : Sz 32 b := by unfold Sz; omega
    have se : Sz 41 (e + 1) := by unfold Sz; omega
    have s1 : Sz 50 (45007 + 14 * (e + 1)) := by unfold Sz; omega
    have c1 : CMulX 14 (e + 1) := Sz.cmul (b := 4) (by unfold Sz; decide) se (by decide)
    have c2 : CMulX 5 (e + 1) := Sz.cmul (b := 4) (by unfold Sz; decide) se (by decide)
    have c3 : CMulX b (45007 + 14 * (e + 1)) := sb.cmul s1 (by decide)
    refine ⟨c1, c3, c2, by decide, by decide, by omega, ?_⟩
    have m1 := Int.fmod_nonneg_of_pos (b * (45007 + 14 * (e + 1)) + 30323 + 5 * (e + 1)) (show (0 : Int) < 2147483629 by decide)
    have m2 := Int.fmod_lt_of_pos (b * (45007 + 14 * (e + 1)) + 30323 + 5 * (e + 1)) (show (0 : Int) < 2147483629 by decide)
    exact hQ _ _ (Int.fmod_nonneg_of_pos _ hy) (Int.fmod_lt_of_pos _ hy) ⟨a, _, e + 1, z2, h2, m1, by omega, by omega, by omega⟩
theorem lpick_ok (hp : SPull fs cs n j) (h : fs[i]? = some (fd_lpick j)) : SPick fs cs (n + 1) i := by
  intro m k c xs W Q hw hx hl hnb hQ
  refine wpC_step h rfl ?_
  simp only [fd_lpick, ↓w_for, ↓w_lc, b_add, b_addT, b_addL, b_sub, b_mul, b_mulL, b_mulT, b_fdiv, b_mod, b_pow, c_lt, c_le, c_gt, c_ge, c_eq, c_ne, c_eqS, c_neS, c_eq_tup, c_ne_tup, c_eq_lst, c_ne_lst, c_eq_bl, c_ne_bl, c_inT, c_ninT, i_int, i_intB, i_abs, i_dm, i_len_tup, i_len_lst, i_len_scr, i_max, i_min, i_gcd, i_isqrt, i_tuple1_tup, i_tuple1_lst, i_list1_tup, i_list1_lst, i_all, i_any, i_sum, i_repr_tup, i_repr_lst, i_repr_bl, i_repr_int, y_bl, y_int, y_str, y_tup, y_lst, y_non, it_tup, it_lst, it_scr, t_bl, t_int, t_tup, t_lst, t_non, w_cons, w_nil, wpS, wpE, wpEs, wpG, wpGs, wpI, wpT, startD, nb_fr, view_fr, it_fr, nb_int, nb_tup, nb_bl, nb_str, nb_lst, nb_scr, nb_non, nb_cell, nbs, g_name, g_tup, gsets, wipeD, noOw, itOk, view_int, view_tup, view_bl, view_str, view_lst, view_scr, view_non, at0, at1, at2, at3, ix0, ix1, ix2, tgN, List.map_cons, List.map_nil, List.append_nil, List.nil_append, List.cons_append, List.length_cons, List.length_nil, List.replicate_zero, List.replicate_succ, List.getElem?_cons_zero, List.getElem?_cons_succ, List.set_cons_zero, List.set_cons_succ, List.all_cons, List.all_nil, Bool.and_true, Bool.true_and, Nat.sub_self, Nat.add_sub_cancel_left, zeroNat, if_true, reduceCtorEq, true_and, and_true, ite_true, ite_false, Bool.false_eq_true, if_false, Nat.reduceAdd, Nat.reduceSub, Nat.reduceLT, Nat.zero_add, List.all, Bool.and_self, Int.reduceToNat, List.reduceReplicate, List.flatten_cons, List.flatten_nil, eq_self, permD, List.getD_cons_zero, List.getD_cons_succ, sIx21, List.take_succ_cons, List.take_zero, Nat.reduceLeDiff, and_self, decide_true, decide_false, Bool.not_true, Bool.not_false, rest_cons]
  have hl0 : 0 < xs.length := List.length_pos_iff.mpr hx
  refine hp m k c xs.length W _ hw (by omega) (by omega) (fun r W' h1 h2 h3 => ?_)
  obtain ⟨t, rfl⟩ := Int.eq_ofNat_of_zero_le h1
  have ht : t < xs.length := by omega
  have e : atI xs (t : Int) = some xs[t] := by
    rw [atI_nat ht, List.getElem?_eq_getElem ht]
  have hm : xs[t] ∈ xs := List.getElem_mem ht
  simp only [↓w_for, ↓w_lc, b_add, b_addT, b_addL, b_sub, b_mul, b_mulL, b_mulT, b_fdiv, b_mod, b_pow, c_lt, c_le, c_gt, c_ge, c_eq, c_ne, c_eqS, c_neS, c_eq_tup, c_ne_tup, c_eq_lst, c_ne_lst, c_eq_bl, c_ne_bl, c_inT, c_ninT, i_int, i_intB, i_abs, i_dm, i_len_tup, i_len_lst, i_len_scr, i_max, i_min, i_gcd, i_isqrt, i_tuple1_tup, i_tuple1_lst, i_list1_tup, i_list1_lst, i_all, i_any, i_sum, i_repr_tup, i_repr_lst, i_repr_bl, i_repr_int, y_bl, y_int, y_str, y_tup, y_lst, y_non, it_tup, it_lst, it_scr, t_bl, t_int, t_tup, t_lst, t_non, w_cons, w_nil, wpS, wpE, wpEs, wpG, wpGs, wpI, wpT, startD, nb_fr, view_fr, it_fr, nb_int, nb_tup, nb_bl, nb_str, nb_lst, nb_scr, nb_non, nb_cell, nbs, g_name, g_tup, gsets, wipeD, noOw, itOk, view_int, view_tup, view_bl, view_str, view_lst, view_scr, view_non, at0, at1, at2, at3, ix0, ix1, ix2, tgN, List.map_cons, List.map_nil, List.append_nil, List.nil_append, List.cons_append, List.length_cons, List.length_nil, List.replicate_zero, List.replicate_succ, List.getElem?_cons_zero, List.getElem?_cons_succ, List.set_cons_zero, List.set_cons_succ, List.all_cons, List.all_nil, Bool.and_true, Bool.true_and, Nat.sub_self, Nat.add_sub_cancel_left, zeroNat, if_true, reduceCtorEq, true_and, and_true, ite_true, ite_false, Bool.false_eq_true, if_false, Nat.reduceAdd, Nat.reduceSub, Nat.reduceLT, Nat.zero_add, List.all, Bool.and_self, Int.reduceToNat, List.reduceReplicate, List.flatten_cons, List.flatten_nil, eq_self, permD, List.getD_cons_zero, List.getD_cons_succ, sIx21, List.take_succ_cons, List.take_zero, Nat.reduceLeDiff, and_self, decide_true, decide_false, Bool.not_true, Bool.not_false, rest_cons, e]
  exact ⟨hnb _ hm, hQ _ _ hm h3⟩
theorem common_step {a b L : Nat} (h : b < a) (hb : b ≠ 0) (hp : a * b < 2 ^ (L + 1)) : b * (a % b) < 2 ^ L := by
  have h1 : a % b < b := Nat.mod_lt _ (by omega)
  have h2 : b + a % b ≤ a := by
    have := Nat.div_add_mod a b
    have h3 : 1 ≤ a / b := Nat.div_pos (by omega) (by omega)
    have : b * 1 ≤ b * (a / b) := Nat.mul_le_mul_left _ h3
    omega
  have h3 : 2 * (a % b) ≤ a := by omega
  have h4 : b * (2 * (a % b)) ≤ b * a := Nat.mul_le_mul_left _ h3
  rw [Nat.pow_succ] at hp
  have e1 : b * (2 * (a % b)) = 2 * (b * (a % b)) := by rw [Nat.mul_left_comm]
  have e2 : b * a = a * b := Nat.mul_comm _ _
  omega
theorem lcommon_ok (h : fs[i]? = some fd_lcommon) : SCom fs cs 1 i := by
  intro m x y b W Q hy hb hQ
  refine wpC_step h rfl ?_
  have ab : ∀ z : Int, (if z < 0 then -z else z) = (z.natAbs : Int) := fun z => by split <;> omega
  simp only [fd_lcommon, ↓w_for, ↓w_lc, b_add, b_addT, b_addL, b_sub, b_mul, b_mulL, b_mulT, b_fdiv, b_mod, b_pow, c_lt, c_le, c_gt, c_ge, c_eq, c_ne, c_eqS, c_neS, c_eq_tup, c_ne_tup, c_eq_lst, c_ne_lst, c_eq_bl, c_ne_bl, c_inT, c_ninT, i_int, i_intB, i_abs, i_dm, i_len_tup, i_len_lst, i_len_scr, i_max, i_min, i_gcd, i_isqrt, i_tuple1_tup, i_tuple1_lst, i_list1_tup, i_list1_lst, i_all, i_any, i_sum, i_repr_tup, i_repr_lst, i_repr_bl, i_repr_int, y_bl, y_int, y_str, y_tup, y_lst, y_non, it_tup, it_lst, it_scr, t_bl, t_int, t_tup, t_lst, t_non, w_cons, w_nil, wpS, wpE, wpEs, wpG, wpGs, wpI, wpT, startD, nb_fr, view_fr, it_fr, nb_int, nb_tup, nb_bl, nb_str, nb_lst, nb_scr, nb_non, nb_cell, nbs, g_name, g_tup, gsets, wipeD, noOw, itOk, view_int, view_tup, view_bl, view_str, view_lst, view_scr, view_non, at0, at1, at2, at3, ix0, ix1, ix2, tgN, List.map_cons, List.map_nil, List.append_nil, List.nil_append, List.cons_append, List.length_cons, List.length_nil, List.replicate_zero, List.replicate_succ, List.getElem?_cons_zero, List.getElem?_cons_succ, List.set_cons_zero, List.set_cons_succ, List.all_cons, List.all_nil, Bool.and_true, Bool.true_and, Nat.sub_self, Nat.add_sub_cancel_left, zeroNat, if_true, reduceCtorEq, true_and, and_true, ite_true, ite_false, Bool.false_eq_true, if_false, Nat.reduceAdd, Nat.reduceSub, Nat.reduceLT, Nat.zero_add, List.all, Bool.and_self, Int.reduceToNat, List.reduceReplicate, List.flatten_cons, List.flatten_nil, eq_self, permD, List.getD_cons_zero, List.getD_cons_succ, sIx21, List.take_succ_cons, List.take_zero, Nat.reduceLeDiff, and_self, decide_true, decide_false, Bool.not_true, Bool.not_false, rest_cons, ab]
  have sy : Sz b (y.natAbs : Int) := by
    unfold Sz at *
    rw [Int.natAbs_natCast]
    exact hy
  have bt := sy.bits
  generalize ht : Builtin.Int.intBits ((y.natAbs : Nat) : Int) = t at *
  have hyt : y.natAbs < 2 ^ t := by
    rw [← ht]
    unfold Builtin.Int.intBits
    split
    · rename_i z
      have z : ((y.natAbs : Nat) : Int) = 0 := eq_of_beq z
      have : y.natAbs = 0 := by omega
      rw [this]
      decide
    · rw [Int.natAbs_natCast]
      exact Nat.lt_log2_self
  refine ⟨Sz.cmul (b := 4) (c := 20) (by unfold Sz; decide) (by unfold Sz; omega) (by decide), ⟨by omega, by omega⟩, ?_⟩
  have len : (rngD 0 (2 * (t : Int) + 3).toNat).length = 2 * t + 3 := by
    unfold rngD
    rw [List.length_map, List.length_range]
    omega
  have nbs_ : ∀ z ∈ rngD 0 (2 * (t : Int) + 3).toNat, z.nb = true := by
    intro z hz
    unfold rngD at hz
    obtain ⟨k, _, rfl⟩ := List.mem_map.mp hz
    rfl
  refine forL_rest (P := fun r σ W' => ∃ (a c : Nat) (z : SV), σ = [.sh (.int a), .sh (.int c), z] ∧ (∀ z ∈ r, z.nb = true) ∧ W' = W ∧ Nat.gcd a c = Int.gcd x y ∧ ((c < a ∧ a * c < 2 ^ r.length) ∨ (r.length = 2 * t + 3 ∧ c < 2 ^ t))) ?_ ?_ _ _ _ ⟨x.natAbs, y.natAbs, .no, rfl, nbs_, rfl, rfl, .inr ⟨len, hyt⟩⟩
  · rintro q r σ W' e ⟨a, c, z, rfl, hz, rfl, hg, hm⟩ hn hc hr hb'
    have hq := hz q List.mem_cons_self
    by_cases c0 : c = 0
    · subst c0
      have e0 : (((0 : Nat) : Int) = 0) = True := by simp
      simp only [forB, hq, ↓w_for, ↓w_lc, b_add, b_addT, b_addL, b_sub, b_mul, b_mulL, b_mulT, b_fdiv, b_mod, b_pow, c_lt, c_le, c_gt, c_ge, c_eq, c_ne, c_eqS, c_neS, c_eq_tup, c_ne_tup, c_eq_lst, c_ne_lst, c_eq_bl, c_ne_bl, c_inT, c_ninT, i_int, i_intB, i_abs, i_dm, i_len_tup, i_len_lst, i_len_scr, i_max, i_min, i_gcd, i_isqrt, i_tuple1_tup, i_tuple1_lst, i_list1_tup, i_list1_lst, i_all, i_any, i_sum, i_repr_tup, i_repr_lst, i_repr_bl, i_repr_int, y_bl, y_int, y_str, y_tup, y_lst, y_non, it_tup, it_lst, it_scr, t_bl, t_int, t_tup, t_lst, t_non, w_cons, w_nil, wpS, wpE, wpEs, wpG, wpGs, wpI, wpT, startD, nb_fr, view_fr, it_fr, nb_int, nb_tup, nb_bl, nb_str, nb_lst, nb_scr, nb_non, nb_cell, nbs, g_name, g_tup, gsets, wipeD, noOw, itOk, view_int, view_tup, view_bl, view_str, view_lst, view_scr, view_non, at0, at1, at2, at3, ix0, ix1, ix2, tgN, List.map_cons, List.map_nil, List.append_nil, List.nil_append, List.cons_append, List.length_cons, List.length_nil, List.replicate_zero, List.replicate_succ, List.getElem?_cons_zero, List.getElem?_cons_succ, List.set_cons_zero, List.set_cons_succ, List.all_cons, List.all_nil, Bool.and_true, Bool.true_and, Nat.sub_self, Nat.add_sub_cancel_left, zeroNat, if_true, reduceCtorEq, true_and, and_true, ite_true, ite_false, Bool.false_eq_true, if_false, Nat.reduceAdd, Nat.reduceSub, Nat.reduceLT, Nat.zero_add, List.all, Bool.and_self, Int.reduceToNat, List.reduceReplicate, List.flatten_cons, List.flatten_nil, eq_self, permD, List.getD_cons_zero, List.getD_cons_succ, sIx21, List.take_succ_cons, List.take_zero, Nat.reduceLeDiff, and_self, decide_true, decide_false, Bool.not_true, Bool.not_false, rest_cons, e0, hb']
      rw [Nat.gcd_zero_right] at hg
      rw [hg]
      exact hQ
    · have e0 : ((c : Int) = 0) = False := by simp [c0]
      simp only [forB, hq, ↓w_for, ↓w_lc, b_add, b_addT, b_addL, b_sub, b_mul, b_mulL, b_mulT, b_fdiv, b_mod, b_pow, c_lt, c_le, c_gt, c_ge, c_eq, c_ne, c_eqS, c_neS, c_eq_tup, c_ne_tup, c_eq_lst, c_ne_lst, c_eq_bl, c_ne_bl, c_inT, c_ninT, i_int, i_intB, i_abs, i_dm, i_len_tup, i_len_lst, i_len_scr, i_max, i_min, i_gcd, i_isqrt, i_tuple1_tup, i_tuple1_lst, i_list1_tup, i_list1_lst, i_all, i_any, i_sum, i_repr_tup, i_repr_lst, i_repr_bl, i_repr_int, y_bl, y_int, y_str, y_tup, y_lst, y_non, it_tup, it_lst, it_scr, t_bl, t_int, t_tup, t_lst, t_non, w_cons, w_nil, wpS, wpE, wpEs, wpG, wpGs, wpI, wpT, startD, nb_fr, view_fr, it_fr, nb_int, nb_tup, nb_bl, nb_str, nb_lst, nb_scr, nb_non, nb_cell, nbs, g_name, g_tup, gsets, wipeD, noOw, itOk, view_int, view_tup, view_bl, view_str, view_lst, view_scr, view_non, at0, at1, at2, at3, ix0, ix1, ix2, tgN, List.map_cons, List.map_nil, List.append_nil, List.nil_append, List.cons_append, List.length_cons, List.length_nil, List.replicate_zero, List.replicate_succ, List.getElem?_cons_zero, List.getElem?_cons_succ, List.set_cons_zero, List.set_cons_succ, List.all_cons, List.all_nil, Bool.and_true, Bool.true_and, Nat.sub_self, Nat.add_sub_cancel_left, zeroNat, if_true, reduceCtorEq, true_and, and_true, ite_true, ite_false, Bool.false_eq_true, if_false, Nat.reduceAdd, Nat.reduceSub, Nat.reduceLT, Nat.zero_add, List.all, Bool.and_self, Int.reduceToNat, List.reduceReplicate, List.flatten_cons, List.flatten_nil, eq_self, permD, List.getD_cons_zero, List.getD_cons_succ, sIx21, List.take_succ_cons, List.take_zero, Nat.reduceLeDiff, and_self, decide_true, decide_false, Bool.not_true, Bool.not_false, rest_cons, e0]
      refine ⟨by omega, hn _ _ ⟨c, a % c, .sh q, ?_, fun z h => hz z (List.mem_cons_of_mem _ h), rfl, ?_, .inl ⟨Nat.mod_lt _ (by omega), ?_⟩⟩⟩
      · rw [Int.fmod_eq_emod_of_nonneg _ (by omega)]
        rfl
      · rw [← hg, Nat.gcd_comm a c, Nat.gcd_rec c a, Nat.gcd_comm]
      · rcases hm with ⟨h1, h2⟩ | ⟨h1, h2⟩
        · exact common_step h1 c0 (by simpa using h2)
        · have h3 : a % c < c := Nat.mod_lt _ (by omega)
          simp only [List.length_cons] at h1
          have h4 : r.length = 2 * t + 2 := by omega
          rw [h4]
          calc c * (a % c) < 2 ^ t * 2 ^ t := Nat.mul_lt_mul'' h2 (by omega)
            _ = 2 ^ (t + t) := (Nat.pow_add 2 t t).symm
            _ ≤ 2 ^ (2 * t + 2) := Nat.pow_le_pow_right (by decide) (by omega)
  · rintro σ W' ⟨a, c, z, rfl, hz, rfl, hg, hm⟩
    have c0 : c = 0 := by
      rcases hm with ⟨h1, h2⟩ | ⟨h1, h2⟩
      · simp only [List.length_nil, Nat.pow_zero] at h2
        have h3 : a * c = 0 := by omega
        rcases Nat.mul_eq_zero.mp h3 with h | h
        · omega
        · exact h
      · simp at h1
    subst c0
    simp only [↓w_for, ↓w_lc, b_add, b_addT, b_addL, b_sub, b_mul, b_mulL, b_mulT, b_fdiv, b_mod, b_pow, c_lt, c_le, c_gt, c_ge, c_eq, c_ne, c_eqS, c_neS, c_eq_tup, c_ne_tup, c_eq_lst, c_ne_lst, c_eq_bl, c_ne_bl, c_inT, c_ninT, i_int, i_intB, i_abs, i_dm, i_len_tup, i_len_lst, i_len_scr, i_max, i_min, i_gcd, i_isqrt, i_tuple1_tup, i_tuple1_lst, i_list1_tup, i_list1_lst, i_all, i_any, i_sum, i_repr_tup, i_repr_lst, i_repr_bl, i_repr_int, y_bl, y_int, y_str, y_tup, y_lst, y_non, it_tup, it_lst, it_scr, t_bl, t_int, t_tup, t_lst, t_non, w_cons, w_nil, wpS, wpE, wpEs, wpG, wpGs, wpI, wpT, startD, nb_fr, view_fr, it_fr, nb_int, nb_tup, nb_bl, nb_str, nb_lst, nb_scr, nb_non, nb_cell, nbs, g_name, g_tup, gsets, wipeD, noOw, itOk, view_int, view_tup, view_bl, view_str, view_lst, view_scr, view_non, at0, at1, at2, at3, ix0, ix1, ix2, tgN, List.map_cons, List.map_nil, List.append_nil, List.nil_append, List.cons_append, List.length_cons, List.length_nil, List.replicate_zero, List.replicate_succ, List.getElem?_cons_zero, List.getElem?_cons_succ, List.set_cons_zero, List.set_cons_succ, List.all_cons, List.all_nil, Bool.and_true, Bool.true_and, Nat.sub_self, Nat.add_sub_cancel_left, zeroNat, if_true, reduceCtorEq, true_and, and_true, ite_true, ite_false, Bool.false_eq_true, if_false, Nat.reduceAdd, Nat.reduceSub, Nat.reduceLT, Nat.zero_add, List.all, Bool.and_self, Int.reduceToNat, List.reduceReplicate, List.flatten_cons, List.flatten_nil, eq_self, permD, List.getD_cons_zero, List.getD_cons_succ, sIx21, List.take_succ_cons, List.take_zero, Nat.reduceLeDiff, and_self, decide_true, decide_false, Bool.not_true, Bool.not_false, rest_cons]
    rw [Nat.gcd_zero_right] at hg
    rw [hg]
    exact hQ
theorem lratio_ok (hc : SCom fs cs n j) (h : fs[i]? = some (fd_lratio j)) : SRatio fs cs (n + 1) i := by
  intro m x y b W Q hx hy hb h0 hQ
  refine wpC_step h rfl ?_
  have hy' : Sz 8000 y := hy.mono (by omega)
  have g := gcd_ok (x := x) (y := y)
  by_cases c : 0 < y
  · simp only [fd_lratio, c, ↓w_for, ↓w_lc, b_add, b_addT, b_addL, b_sub, b_mul, b_mulL, b_mulT, b_fdiv, b_mod, b_pow, c_lt, c_le, c_gt, c_ge, c_eq, c_ne, c_eqS, c_neS, c_eq_tup, c_ne_tup, c_eq_lst, c_ne_lst, c_eq_bl, c_ne_bl, c_inT, c_ninT, i_int, i_intB, i_abs, i_dm, i_len_tup, i_len_lst, i_len_scr, i_max, i_min, i_gcd, i_isqrt, i_tuple1_tup, i_tuple1_lst, i_list1_tup, i_list1_lst, i_all, i_any, i_sum, i_repr_tup, i_repr_lst, i_repr_bl, i_repr_int, y_bl, y_int, y_str, y_tup, y_lst, y_non, it_tup, it_lst, it_scr, t_bl, t_int, t_tup, t_lst, t_non, w_cons, w_nil, wpS, wpE, wpEs, wpG, wpGs, wpI, wpT, startD, nb_fr, view_fr, it_fr, nb_int, nb_tup, nb_bl, nb_str, nb_lst, nb_scr, nb_non, nb_cell, nbs, g_name, g_tup, gsets, wipeD, noOw, itOk, view_int, view_tup, view_bl, view_str, view_lst, view_scr, view_non, at0, at1, at2, at3, ix0, ix1, ix2, tgN, List.map_cons, List.map_nil, List.append_nil, List.nil_append, List.cons_append, List.length_cons, List.length_nil, List.replicate_zero, List.replicate_succ, List.getElem?_cons_zero, List.getElem?_cons_succ, List.set_cons_zero, List.set_cons_succ, List.all_cons, List.all_nil, Bool.and_true, Bool.true_and, Nat.sub_self, Nat.add_sub_cancel_left, zeroNat, if_true, reduceCtorEq, true_and, and_true, ite_true, ite_false, Bool.false_eq_true, if_false, Nat.reduceAdd, Nat.reduceSub, Nat.reduceLT, Nat.zero_add, List.all, Bool.and_self, Int.reduceToNat, List.reduceReplicate, List.flatten_cons, List.flatten_nil, eq_self, permD, List.getD_cons_zero, List.getD_cons_succ, sIx21, List.take_succ_cons, List.take_zero, Nat.reduceLeDiff, and_self, decide_true, decide_false, Bool.not_true, Bool.not_false, rest_cons]
    refine hc m x y b W _ hy (by omega) ?_
    rw [fr_divInt c] at hQ
    obtain ⟨g1, g2⟩ := gcd_ok (x := x) c hy'
    simp only [↓w_for, ↓w_lc, b_add, b_addT, b_addL, b_sub, b_mul, b_mulL, b_mulT, b_fdiv, b_mod, b_pow, c_lt, c_le, c_gt, c_ge, c_eq, c_ne, c_eqS, c_neS, c_eq_tup, c_ne_tup, c_eq_lst, c_ne_lst, c_eq_bl, c_ne_bl, c_inT, c_ninT, i_int, i_intB, i_abs, i_dm, i_len_tup, i_len_lst, i_len_scr, i_max, i_min, i_gcd, i_isqrt, i_tuple1_tup, i_tuple1_lst, i_list1_tup, i_list1_lst, i_all, i_any, i_sum, i_repr_tup, i_repr_lst, i_repr_bl, i_repr_int, y_bl, y_int, y_str, y_tup, y_lst, y_non, it_tup, it_lst, it_scr, t_bl, t_int, t_tup, t_lst, t_non, w_cons, w_nil, wpS, wpE, wpEs, wpG, wpGs, wpI, wpT, startD, nb_fr, view_fr, it_fr, nb_int, nb_tup, nb_bl, nb_str, nb_lst, nb_scr, nb_non, nb_cell, nbs, g_name, g_tup, gsets, wipeD, noOw, itOk, view_int, view_tup, view_bl, view_str, view_lst, view_scr, view_non, at0, at1, at2, at3, ix0, ix1, ix2, tgN, List.map_cons, List.map_nil, List.append_nil, List.nil_append, List.cons_append, List.length_cons, List.length_nil, List.replicate_zero, List.replicate_succ, List.getElem?_cons_zero, List.getElem?_cons_succ, List.set_cons_zero, List.set_cons_succ, List.all_cons, List.all_nil, Bool.and_true, Bool.true_and, Nat.sub_self, Nat.add_sub_cancel_left, zeroNat, if_true, reduceCtorEq, true_and, and_true, ite_true, ite_false, Bool.false_eq_true, if_false, Nat.reduceAdd, Nat.reduceSub, Nat.reduceLT, Nat.zero_add, List.all, Bool.and_self, Int.reduceToNat, List.reduceReplicate, List.flatten_cons, List.flatten_nil, eq_self, permD, List.getD_cons_zero, List.getD_cons_succ, sIx21, List.take_succ_cons, List.take_zero, Nat.reduceLeDiff, and_self, decide_true, decide_false, Bool.not_true, Bool.not_false, rest_cons]
    exact ⟨⟨g1, g2⟩, ⟨g1, g2⟩, by decide, hQ⟩
  · simp only [fd_lratio, c, ↓w_for, ↓w_lc, b_add, b_addT, b_addL, b_sub, b_mul, b_mulL, b_mulT, b_fdiv, b_mod, b_pow, c_lt, c_le, c_gt, c_ge, c_eq, c_ne, c_eqS, c_neS, c_eq_tup, c_ne_tup, c_eq_lst, c_ne_lst, c_eq_bl, c_ne_bl, c_inT, c_ninT, i_int, i_intB, i_abs, i_dm, i_len_tup, i_len_lst, i_len_scr, i_max, i_min, i_gcd, i_isqrt, i_tuple1_tup, i_tuple1_lst, i_list1_tup, i_list1_lst, i_all, i_any, i_sum, i_repr_tup, i_repr_lst, i_repr_bl, i_repr_int, y_bl, y_int, y_str, y_tup, y_lst, y_non, it_tup, it_lst, it_scr, t_bl, t_int, t_tup, t_lst, t_non, w_cons, w_nil, wpS, wpE, wpEs, wpG, wpGs, wpI, wpT, startD, nb_fr, view_fr, it_fr, nb_int, nb_tup, nb_bl, nb_str, nb_lst, nb_scr, nb_non, nb_cell, nbs, g_name, g_tup, gsets, wipeD, noOw, itOk, view_int, view_tup, view_bl, view_str, view_lst, view_scr, view_non, at0, at1, at2, at3, ix0, ix1, ix2, tgN, List.map_cons, List.map_nil, List.append_nil, List.nil_append, List.cons_append, List.length_cons, List.length_nil, List.replicate_zero, List.replicate_succ, List.getElem?_cons_zero, List.getElem?_cons_succ, List.set_cons_zero, List.set_cons_succ, List.all_cons, List.all_nil, Bool.and_true, Bool.true_and, Nat.sub_self, Nat.add_sub_cancel_left, zeroNat, if_true, reduceCtorEq, true_and, and_true, ite_true, ite_false, Bool.false_eq_true, if_false, Nat.reduceAdd, Nat.reduceSub, Nat.reduceLT, Nat.zero_add, List.all, Bool.and_self, Int.reduceToNat, List.reduceReplicate, List.flatten_cons, List.flatten_nil, eq_self, permD, List.getD_cons_zero, List.getD_cons_succ, sIx21, List.take_succ_cons, List.take_zero, Nat.reduceLeDiff, and_self, decide_true, decide_false, Bool.not_true, Bool.not_false, rest_cons]
    refine hc m x y b W _ hy (by omega) ?_
    rw [← divInt_flip, fr_divInt (by omega)] at hQ
    obtain ⟨g1, g2⟩ := gcd_ok (x := -x) (y := -y) (by omega) hy'.neg
    have e : Int.gcd (-x) (-y) = Int.gcd x y := by rw [Int.gcd_neg, Int.neg_gcd]
    rw [e] at g1 g2 hQ
    have e2 : ∀ u : Int, u.fdiv (0 - (Int.gcd x y : Nat)) = (-u).fdiv (Int.gcd x y : Nat) := fun u => by
      rw [Int.zero_sub, ← Int.neg_fdiv_neg (-u), Int.neg_neg]
    simp only [↓w_for, ↓w_lc, b_add, b_addT, b_addL, b_sub, b_mul, b_mulL, b_mulT, b_fdiv, b_mod, b_pow, c_lt, c_le, c_gt, c_ge, c_eq, c_ne, c_eqS, c_neS, c_eq_tup, c_ne_tup, c_eq_lst, c_ne_lst, c_eq_bl, c_ne_bl, c_inT, c_ninT, i_int, i_intB, i_abs, i_dm, i_len_tup, i_len_lst, i_len_scr, i_max, i_min, i_gcd, i_isqrt, i_tuple1_tup, i_tuple1_lst, i_list1_tup, i_list1_lst, i_all, i_any, i_sum, i_repr_tup, i_repr_lst, i_repr_bl, i_repr_int, y_bl, y_int, y_str, y_tup, y_lst, y_non, it_tup, it_lst, it_scr, t_bl, t_int, t_tup, t_lst, t_non, w_cons, w_nil, wpS, wpE, wpEs, wpG, wpGs, wpI, wpT, startD, nb_fr, view_fr, it_fr, nb_int, nb_tup, nb_bl, nb_str, nb_lst, nb_scr, nb_non, nb_cell, nbs, g_name, g_tup, gsets, wipeD, noOw, itOk, view_int, view_tup, view_bl, view_str, view_lst, view_scr, view_non, at0, at1, at2, at3, ix0, ix1, ix2, tgN, List.map_cons, List.map_nil, List.append_nil, List.nil_append, List.cons_append, List.length_cons, List.length_nil, List.replicate_zero, List.replicate_succ, List.getElem?_cons_zero, List.getElem?_cons_succ, List.set_cons_zero, List.set_cons_succ, List.all_cons, List.all_nil, Bool.and_true, Bool.true_and, Nat.sub_self, Nat.add_sub_cancel_left, zeroNat, if_true, reduceCtorEq, true_and, and_true, ite_true, ite_false, Bool.false_eq_true, if_false, Nat.reduceAdd, Nat.reduceSub, Nat.reduceLT, Nat.zero_add, List.all, Bool.and_self, Int.reduceToNat, List.reduceReplicate, List.flatten_cons, List.flatten_nil, eq_self, permD, List.getD_cons_zero, List.getD_cons_succ, sIx21, List.take_succ_cons, List.take_zero, Nat.reduceLeDiff, and_self, decide_true, decide_false, Bool.not_true, Bool.not_false, rest_cons, e2]
    have g3 : (0 - ((Int.gcd x y : Nat) : Int)) ≠ 0 := by omega
    have g4 : (0 - ((Int.gcd x y : Nat) : Int)).natAbs.log2 < 9000 := by
      rw [Int.zero_sub, Int.natAbs_neg]
      exact g2
    exact ⟨⟨g3, g4⟩, ⟨g3, g4⟩, by decide, hQ⟩
end
/-! ### the well, figures drawn of it -/
def fd_lwell (a b : Int) : Fd := ⟨6, 2, .cons (.asg (.name 2) (.ite (.cmp .lt (.var 1) (.bi .len (.cons (.var 0) .nil))) (.bi .int1 (.cons (.ix (.var 0) (.var 1)) .nil)) (.bin .add (.bin .mul (.con (.int 631)) (.var 1)) (.con (.int 17))))) (.cons (.asg (.name 3) (.bin .add (.con (.int a)) (.bin .mul (.con (.int b)) (.var 1)))) (.cons (.sfor (.val (.slTo (.var 0) (.con (.int 9)))) (.name 4) (.cons (.asg (.name 3) (.bin .mod (.bi .int1 (.cons (.bin .add (.bin .add (.bin .mul (.var 3) (.con (.int 48731))) (.bin .mod (.bi .int1 (.cons (.var 4) .nil)) (.con (.int 2147483563)))) (.con (.int 5))) .nil)) (.con (.int 2147483563)))) .nil)) (.cons (.asg (.name 5) (.ite (.or (.cmp .lt (.var 2) (.con (.int 0))) (.cmp .ge (.var 2) (.bin .pow (.con (.int 10)) (.con (.int 16))))) (.bi .abs (.cons (.var 2) .nil)) (.con (.int 0)))) (.cons (.retCell (.cons (.var 5) (.cons (.bin .mod (.bi .int1 (.cons (.bin .add (.bin .add (.bin .mul (.var 3) (.con (.int 39))) (.bin .mul (.bin .mod (.bi .int1 (.cons (.var 2) .nil)) (.con (.int 2147483399))) (.con (.int 12391)))) (.var 1)) .nil)) (.con (.int 2147483399))) (.cons (.con (.int 0)) .nil)))) .nil))))⟩
section
variable (fs : List Fd) (cs : List D) (n i : Nat)
def SWell : Prop := ∀ (m : Nat) (ns : List Int) (t : Nat) (W : Ce) (Q : D → Ce → Prop), t < 64 → (∀ (k : Nat) (W' : Ce), Wl k 1000000000 W' → Q (.cell k) W') → wpC fs cs (m + n) i [.scr ns, .int t] W Q
end
section
variable {fs : List Fd} {cs : List D} {n i j j2 : Nat}
theorem lwell_ok {a b : Int} (ha : Sz 30 a) (hb : Sz 30 b) (h : fs[i]? = some (fd_lwell a b)) : SWell fs cs 1 i := by
  intro m ns t W Q ht hQ
  refine wpC_step h rfl ?_
  have st : Sz 6 (t : Int) := by unfold Sz; omega
  have cbt : CMulX b t := hb.cmul st (by decide)
  have sbt : Sz 36 (b * t) := hb.mul st
  -- the rest of the body, from the own figure on
  have main : ∀ v : Int, wpSs ⟨wpC fs cs (m + 0), cs⟩ (match (fd_lwell a b).body with | .cons _ s => s | .nil => .nil) [.sh (.scr ns), .sh (.int t), .sh (.int v), .no, .no, .no] W { nx := fun _ W1 => Q .non W1, rt := Q, bk := fun _ _ => False, ct := fun _ _ => False } := by
    intro v
    simp only [fd_lwell, ↓w_for, ↓w_lc, b_add, b_addT, b_addL, b_sub, b_mul, b_mulL, b_mulT, b_fdiv, b_mod, b_pow, c_lt, c_le, c_gt, c_ge, c_eq, c_ne, c_eqS, c_neS, c_eq_tup, c_ne_tup, c_eq_lst, c_ne_lst, c_eq_bl, c_ne_bl, c_inT, c_ninT, i_int, i_intB, i_abs, i_dm, i_len_tup, i_len_lst, i_len_scr, i_max, i_min, i_gcd, i_isqrt, i_tuple1_tup, i_tuple1_lst, i_list1_tup, i_list1_lst, i_all, i_any, i_sum, i_repr_tup, i_repr_lst, i_repr_bl, i_repr_int, y_bl, y_int, y_str, y_tup, y_lst, y_non, it_tup, it_lst, it_scr, t_bl, t_int, t_tup, t_lst, t_non, w_cons, w_nil, wpS, wpE, wpEs, wpG, wpGs, wpI, wpT, startD, nb_fr, view_fr, it_fr, nb_int, nb_tup, nb_bl, nb_str, nb_lst, nb_scr, nb_non, nb_cell, nbs, g_name, g_tup, gsets, wipeD, noOw, itOk, view_int, view_tup, view_bl, view_str, view_lst, view_scr, view_non, at0, at1, at2, at3, ix0, ix1, ix2, tgN, List.map_cons, List.map_nil, List.append_nil, List.nil_append, List.cons_append, List.length_cons, List.length_nil, List.replicate_zero, List.replicate_succ, List.getElem?_cons_zero, List.getElem?_cons_succ, List.set_cons_zero, List.set_cons_succ, List.all_cons, List.all_nil, Bool.and_true, Bool.true_and, Nat.sub_self, Nat.add_sub_cancel_left, zeroNat, if_true, reduceCtorEq, true_and, and_true, ite_true, ite_false, Bool.false_eq_true, if_false, Nat.reduceAdd, Nat.reduceSub, Nat.reduceLT, Nat.zero_add, List.all, Bool.and_self, Int.reduceToNat, List.reduceReplicate, List.flatten_cons, List.flatten_nil, eq_self, permD, List.getD_cons_zero, List.getD_cons_succ, sIx21, List.take_succ_cons, List.take_zero, Nat.reduceLeDiff, and_self, decide_true, decide_false, Bool.not_true, Bool.not_false, rest_cons]
    refine ⟨cbt, ?_⟩
    refine forL_rest (P := fun r σ W' => ∃ (s : Int) (z : SV) (ks : List Int), σ = [.sh (.scr ns), .sh (.int t), .sh (.int v), .sh (.int s), z, .no] ∧ Sz 40 s ∧ r = ks.map .int ∧ W' = W) ?_ ?_ _ _ _ ⟨a + b * t, .no, _, rfl, ?_, (List.map_take).symm, rfl⟩
    · rintro q r σ W' e ⟨s, z, ks, rfl, hs, hk, rfl⟩ hn hc hr hb'
      cases ks with
      | nil => cases hk
      | cons k ks =>
        cases hk
        simp only [forB, ↓w_for, ↓w_lc, b_add, b_addT, b_addL, b_sub, b_mul, b_mulL, b_mulT, b_fdiv, b_mod, b_pow, c_lt, c_le, c_gt, c_ge, c_eq, c_ne, c_eqS, c_neS, c_eq_tup, c_ne_tup, c_eq_lst, c_ne_lst, c_eq_bl, c_ne_bl, c_inT, c_ninT, i_int, i_intB, i_abs, i_dm, i_len_tup, i_len_lst, i_len_scr, i_max, i_min, i_gcd, i_isqrt, i_tuple1_tup, i_tuple1_lst, i_list1_tup, i_list1_lst, i_all, i_any, i_sum, i_repr_tup, i_repr_lst, i_repr_bl, i_repr_int, y_bl, y_int, y_str, y_tup, y_lst, y_non, it_tup, it_lst, it_scr, t_bl, t_int, t_tup, t_lst, t_non, w_cons, w_nil, wpS, wpE, wpEs, wpG, wpGs, wpI, wpT, startD, nb_fr, view_fr, it_fr, nb_int, nb_tup, nb_bl, nb_str, nb_lst, nb_scr, nb_non, nb_cell, nbs, g_name, g_tup, gsets, wipeD, noOw, itOk, view_int, view_tup, view_bl, view_str, view_lst, view_scr, view_non, at0, at1, at2, at3, ix0, ix1, ix2, tgN, List.map_cons, List.map_nil, List.append_nil, List.nil_append, List.cons_append, List.length_cons, List.length_nil, List.replicate_zero, List.replicate_succ, List.getElem?_cons_zero, List.getElem?_cons_succ, List.set_cons_zero, List.set_cons_succ, List.all_cons, List.all_nil, Bool.and_true, Bool.true_and, Nat.sub_self, Nat.add_sub_cancel_left, zeroNat, if_true, reduceCtorEq, true_and, and_true, ite_true, ite_false, Bool.false_eq_true, if_false, Nat.reduceAdd, Nat.reduceSub, Nat.reduceLT, Nat.zero_add, List.all, Bool.and_self, Int.reduceToNat, List.reduceReplicate, List.flatten_cons, List.flatten_nil, eq_self, permD, List.getD_cons_zero, List.getD_cons_succ, sIx21, List.take_succ_cons, List.take_zero, Nat.reduceLeDiff, and_self, decide_true, decide_false, Bool.not_true, Bool.not_false, rest_cons]
        have c1 : CMulX s 48731 := hs.cmul (c := 20) (by unfold Sz; decide) (by decide)
        have m1 := Int.fmod_nonneg_of_pos (s * 48731 + k.fmod 2147483563 + 5) (show (0 : Int) < 2147483563 by decide)
        have m2 := Int.fmod_lt_of_pos (s * 48731 + k.fmod 2147483563 + 5) (show (0 : Int) < 2147483563 by decide)
        refine ⟨c1, by decide, by decide, hn _ _ ⟨_, _, ks, rfl, ?_, rfl, rfl⟩⟩
        unfold Sz
        omega
    · rintro σ W' ⟨s, z, ks, rfl, hs, hk, rfl⟩
      refine rest_go ?_
      have key : ∀ d : Int, 0 ≤ d → wpSs ⟨wpC fs cs (m + 0), cs⟩ (match (fd_lwell a b).body with | .cons _ (.cons _ (.cons _ (.cons _ s))) => s | _ => .nil) [.sh (.scr ns), .sh (.int t), .sh (.int v), .sh (.int s), z, .sh (.int d)] W' { nx := fun _ W1 => Q .non W1, rt := Q, bk := fun _ _ => False, ct := fun _ _ => False } := by
        intro d hd
        have c1 : CMulX s 39 := hs.cmul (c := 20) (by unfold Sz; decide) (by decide)
        have m1 := Int.fmod_nonneg_of_pos v (show (0 : Int) < 2147483399 by decide)
        have m2 := Int.fmod_lt_of_pos v (show (0 : Int) < 2147483399 by decide)
        have c2 : CMulX (v.fmod 2147483399) 12391 := Sz.cmul (b := 40) (c := 20) (by unfold Sz; omega) (by unfold Sz; decide) (by decide)
        have m3 := Int.fmod_nonneg_of_pos (s * 39 + v.fmod 2147483399 * 12391 + t) (show (0 : Int) < 2147483399 by decide)
        have m4 := Int.fmod_lt_of_pos (s * 39 + v.fmod 2147483399 * 12391 + t) (show (0 : Int) < 2147483399 by decide)
        simp only [fd_lwell, ↓w_for, ↓w_lc, b_add, b_addT, b_addL, b_sub, b_mul, b_mulL, b_mulT, b_fdiv, b_mod, b_pow, c_lt, c_le, c_gt, c_ge, c_eq, c_ne, c_eqS, c_neS, c_eq_tup, c_ne_tup, c_eq_lst, c_ne_lst, c_eq_bl, c_ne_bl, c_inT, c_ninT, i_int, i_intB, i_abs, i_dm, i_len_tup, i_len_lst, i_len_scr, i_max, i_min, i_gcd, i_isqrt, i_tuple1_tup, i_tuple1_lst, i_list1_tup, i_list1_lst, i_all, i_any, i_sum, i_repr_tup, i_repr_lst, i_repr_bl, i_repr_int, y_bl, y_int, y_str, y_tup, y_lst, y_non, it_tup, it_lst, it_scr, t_bl, t_int, t_tup, t_lst, t_non, w_cons, w_nil, wpS, wpE, wpEs, wpG, wpGs, wpI, wpT, startD, nb_fr, view_fr, it_fr, nb_int, nb_tup, nb_bl, nb_str, nb_lst, nb_scr, nb_non, nb_cell, nbs, g_name, g_tup, gsets, wipeD, noOw, itOk, view_int, view_tup, view_bl, view_str, view_lst, view_scr, view_non, at0, at1, at2, at3, ix0, ix1, ix2, tgN, List.map_cons, List.map_nil, List.append_nil, List.nil_append, List.cons_append, List.length_cons, List.length_nil, List.replicate_zero, List.replicate_succ, List.getElem?_cons_zero, List.getElem?_cons_succ, List.set_cons_zero, List.set_cons_succ, List.all_cons, List.all_nil, Bool.and_true, Bool.true_and, Nat.sub_self, Nat.add_sub_cancel_left, zeroNat, if_true, reduceCtorEq, true_and, and_true, ite_true, ite_false, Bool.false_eq_true, if_false, Nat.reduceAdd, Nat.reduceSub, Nat.reduceLT, Nat.zero_add, List.all, Bool.and_self, Int.reduceToNat, List.reduceReplicate, List.flatten_cons, List.flatten_nil, eq_self, permD, List.getD_cons_zero, List.getD_cons_succ, sIx21, List.take_succ_cons, List.take_zero, Nat.reduceLeDiff, and_self, decide_true, decide_false, Bool.not_true, Bool.not_false, rest_cons]
        refine ⟨c1, by decide, c2, by decide, by decide, hQ _ _ ⟨d, _, 0, by simp, hd, m3, by omega, by omega, by omega⟩⟩
      simp only [fd_lwell] at key
      have ab : ∀ z : Int, (if z < 0 then -z else z) = (z.natAbs : Int) := fun z => by split <;> omega
      by_cases c1 : v < 0
      · simp only [c1, ↓w_for, ↓w_lc, b_add, b_addT, b_addL, b_sub, b_mul, b_mulL, b_mulT, b_fdiv, b_mod, b_pow, c_lt, c_le, c_gt, c_ge, c_eq, c_ne, c_eqS, c_neS, c_eq_tup, c_ne_tup, c_eq_lst, c_ne_lst, c_eq_bl, c_ne_bl, c_inT, c_ninT, i_int, i_intB, i_abs, i_dm, i_len_tup, i_len_lst, i_len_scr, i_max, i_min, i_gcd, i_isqrt, i_tuple1_tup, i_tuple1_lst, i_list1_tup, i_list1_lst, i_all, i_any, i_sum, i_repr_tup, i_repr_lst, i_repr_bl, i_repr_int, y_bl, y_int, y_str, y_tup, y_lst, y_non, it_tup, it_lst, it_scr, t_bl, t_int, t_tup, t_lst, t_non, w_cons, w_nil, wpS, wpE, wpEs, wpG, wpGs, wpI, wpT, startD, nb_fr, view_fr, it_fr, nb_int, nb_tup, nb_bl, nb_str, nb_lst, nb_scr, nb_non, nb_cell, nbs, g_name, g_tup, gsets, wipeD, noOw, itOk, view_int, view_tup, view_bl, view_str, view_lst, view_scr, view_non, at0, at1, at2, at3, ix0, ix1, ix2, tgN, List.map_cons, List.map_nil, List.append_nil, List.nil_append, List.cons_append, List.length_cons, List.length_nil, List.replicate_zero, List.replicate_succ, List.getElem?_cons_zero, List.getElem?_cons_succ, List.set_cons_zero, List.set_cons_succ, List.all_cons, List.all_nil, Bool.and_true, Bool.true_and, Nat.sub_self, Nat.add_sub_cancel_left, zeroNat, if_true, reduceCtorEq, true_and, and_true, ite_true, ite_false, Bool.false_eq_true, if_false, Nat.reduceAdd, Nat.reduceSub, Nat.reduceLT, Nat.zero_add, List.all, Bool.and_self, Int.reduceToNat, List.reduceReplicate, List.flatten_cons, List.flatten_nil, eq_self, permD, List.getD_cons_zero, List.getD_cons_succ, sIx21, List.take_succ_cons, List.take_zero, Nat.reduceLeDiff, and_self, decide_true, decide_false, Bool.not_true, Bool.not_false, ab]
        exact key _ (by omega)
      · have cp : CPow 10 16 := by unfold CPow; decide
        cases c2 : decide ((10 : Int) ^ 16 ≤ v) with
        | true =>
          simp only [c1, ↓w_for, ↓w_lc, b_add, b_addT, b_addL, b_sub, b_mul, b_mulL, b_mulT, b_fdiv, b_mod, b_pow, c_lt, c_le, c_gt, c_ge, c_eq, c_ne, c_eqS, c_neS, c_eq_tup, c_ne_tup, c_eq_lst, c_ne_lst, c_eq_bl, c_ne_bl, c_inT, c_ninT, i_int, i_intB, i_abs, i_dm, i_len_tup, i_len_lst, i_len_scr, i_max, i_min, i_gcd, i_isqrt, i_tuple1_tup, i_tuple1_lst, i_list1_tup, i_list1_lst, i_all, i_any, i_sum, i_repr_tup, i_repr_lst, i_repr_bl, i_repr_int, y_bl, y_int, y_str, y_tup, y_lst, y_non, it_tup, it_lst, it_scr, t_bl, t_int, t_tup, t_lst, t_non, w_cons, w_nil, wpS, wpE, wpEs, wpG, wpGs, wpI, wpT, startD, nb_fr, view_fr, it_fr, nb_int, nb_tup, nb_bl, nb_str, nb_lst, nb_scr, nb_non, nb_cell, nbs, g_name, g_tup, gsets, wipeD, noOw, itOk, view_int, view_tup, view_bl, view_str, view_lst, view_scr, view_non, at0, at1, at2, at3, ix0, ix1, ix2, tgN, List.map_cons, List.map_nil, List.append_nil, List.nil_append, List.cons_append, List.length_cons, List.length_nil, List.replicate_zero, List.replicate_succ, List.getElem?_cons_zero, List.getElem?_cons_succ, List.set_cons_zero, List.set_cons_succ, List.all_cons, List.all_nil, Bool.and_true, Bool.true_and, Nat.sub_self, Nat.add_sub_cancel_left, zeroNat, if_true, reduceCtorEq, true_and, and_true, ite_true, ite_false, Bool.false_eq_true, if_false, Nat.reduceAdd, Nat.reduceSub, Nat.reduceLT, Nat.zero_add, List.all, Bool.and_self, Int.reduceToNat, List.reduceReplicate, List.flatten_cons, List.flatten_nil, eq_self, permD, List.getD_cons_zero, List.getD_cons_succ, sIx21, List.take_succ_cons, List.take_zero, Nat.reduceLeDiff, and_self, decide_true, decide_false, Bool.not_true, Bool.not_false, c2, cp, ab]
          exact key _ (by omega)
        | false =>
          simp only [c1, ↓w_for, ↓w_lc, b_add, b_addT, b_addL, b_sub, b_mul, b_mulL, b_mulT, b_fdiv, b_mod, b_pow, c_lt, c_le, c_gt, c_ge, c_eq, c_ne, c_eqS, c_neS, c_eq_tup, c_ne_tup, c_eq_lst, c_ne_lst, c_eq_bl, c_ne_bl, c_inT, c_ninT, i_int, i_intB, i_abs, i_dm, i_len_tup, i_len_lst, i_len_scr, i_max, i_min, i_gcd, i_isqrt, i_tuple1_tup, i_tuple1_lst, i_list1_tup, i_list1_lst, i_all, i_any, i_sum, i_repr_tup, i_repr_lst, i_repr_bl, i_repr_int, y_bl, y_int, y_str, y_tup, y_lst, y_non, it_tup, it_lst, it_scr, t_bl, t_int, t_tup, t_lst, t_non, w_cons, w_nil, wpS, wpE, wpEs, wpG, wpGs, wpI, wpT, startD, nb_fr, view_fr, it_fr, nb_int, nb_tup, nb_bl, nb_str, nb_lst, nb_scr, nb_non, nb_cell, nbs, g_name, g_tup, gsets, wipeD, noOw, itOk, view_int, view_tup, view_bl, view_str, view_lst, view_scr, view_non, at0, at1, at2, at3, ix0, ix1, ix2, tgN, List.map_cons, List.map_nil, List.append_nil, List.nil_append, List.cons_append, List.length_cons, List.length_nil, List.replicate_zero, List.replicate_succ, List.getElem?_cons_zero, List.getElem?_cons_succ, List.set_cons_zero, List.set_cons_succ, List.all_cons, List.all_nil, Bool.and_true, Bool.true_and, Nat.sub_self, Nat.add_sub_cancel_left, zeroNat, if_true, reduceCtorEq, true_and, and_true, ite_true, ite_false, Bool.false_eq_true, if_false, Nat.reduceAdd, Nat.reduceSub, Nat.reduceLT, Nat.zero_add, List.all, Bool.and_self, Int.reduceToNat, List.reduceReplicate, List.flatten_cons, List.flatten_nil, eq_self, permD, List.getD_cons_zero, List.getD_cons_succ, sIx21, List.take_succ_cons, List.take_zero, Nat.reduceLeDiff, and_self, decide_true, decide_false, Bool.not_true, Bool.not_false, c2, cp]
          exact key 0 (by omega)
    · unfold Sz at *
      omega
  simp only [fd_lwell] at main
  by_cases c : (t : Int) < (ns.length : Nat)
  · have c' : t < ns.length := by omega
    have e : atI (ns.map D.int) (t : Int) = some (.int ns[t]) := by
      rw [atI_nat (by rw [List.length_map]; exact c'), List.getElem?_map, List.getElem?_eq_getElem c']
      rfl
    simp only [fd_lwell, c, ↓w_for, ↓w_lc, b_add, b_addT, b_addL, b_sub, b_mul, b_mulL, b_mulT, b_fdiv, b_mod, b_pow, c_lt, c_le, c_gt, c_ge, c_eq, c_ne, c_eqS, c_neS, c_eq_tup, c_ne_tup, c_eq_lst, c_ne_lst, c_eq_bl, c_ne_bl, c_inT, c_ninT, i_int, i_intB, i_abs, i_dm, i_len_tup, i_len_lst, i_len_scr, i_max, i_min, i_gcd, i_isqrt, i_tuple1_tup, i_tuple1_lst, i_list1_tup, i_list1_lst, i_all, i_any, i_sum, i_repr_tup, i_repr_lst, i_repr_bl, i_repr_int, y_bl, y_int, y_str, y_tup, y_lst, y_non, it_tup, it_lst, it_scr, t_bl, t_int, t_tup, t_lst, t_non, w_cons, w_nil, wpS, wpE, wpEs, wpG, wpGs, wpI, wpT, startD, nb_fr, view_fr, it_fr, nb_int, nb_tup, nb_bl, nb_str, nb_lst, nb_scr, nb_non, nb_cell, nbs, g_name, g_tup, gsets, wipeD, noOw, itOk, view_int, view_tup, view_bl, view_str, view_lst, view_scr, view_non, at0, at1, at2, at3, ix0, ix1, ix2, tgN, List.map_cons, List.map_nil, List.append_nil, List.nil_append, List.cons_append, List.length_cons, List.length_nil, List.replicate_zero, List.replicate_succ, List.getElem?_cons_zero, List.getElem?_cons_succ, List.set_cons_zero, List.set_cons_succ, List.all_cons, List.all_nil, Bool.and_true, Bool.true_and, Nat.sub_self, Nat.add_sub_cancel_left, zeroNat, if_true, reduceCtorEq, true_and, and_true, ite_true, ite_false, Bool.false_eq_true, if_false, Nat.reduceAdd, Nat.reduceSub, Nat.reduceLT, Nat.zero_add, List.all, Bool.and_self, Int.reduceToNat, List.reduceReplicate, List.flatten_cons, List.flatten_nil, eq_self, permD, List.getD_cons_zero, List.getD_cons_succ, sIx21, List.take_succ_cons, List.take_zero, Nat.reduceLeDiff, and_self, decide_true, decide_false, Bool.not_true, Bool.not_false, e]
    exact main _
  · have c1 : CMulX 631 (t : Int) := Sz.cmul (b := 10) (by unfold Sz; decide) st (by decide)
    simp only [fd_lwell, c, ↓w_for, ↓w_lc, b_add, b_addT, b_addL, b_sub, b_mul, b_mulL, b_mulT, b_fdiv, b_mod, b_pow, c_lt, c_le, c_gt, c_ge, c_eq, c_ne, c_eqS, c_neS, c_eq_tup, c_ne_tup, c_eq_lst, c_ne_lst, c_eq_bl, c_ne_bl, c_inT, c_ninT, i_int, i_intB, i_abs, i_dm, i_len_tup, i_len_lst, i_len_scr, i_max, i_min, i_gcd, i_isqrt, i_tuple1_tup, i_tuple1_lst, i_list1_tup, i_list1_lst, i_all, i_any, i_sum, i_repr_tup, i_repr_lst, i_repr_bl, i_repr_int, y_bl, y_int, y_str, y_tup, y_lst, y_non, it_tup, it_lst, it_scr, t_bl, t_int, t_tup, t_lst, t_non, w_cons, w_nil, wpS, wpE, wpEs, wpG, wpGs, wpI, wpT, startD, nb_fr, view_fr, it_fr, nb_int, nb_tup, nb_bl, nb_str, nb_lst, nb_scr, nb_non, nb_cell, nbs, g_name, g_tup, gsets, wipeD, noOw, itOk, view_int, view_tup, view_bl, view_str, view_lst, view_scr, view_non, at0, at1, at2, at3, ix0, ix1, ix2, tgN, List.map_cons, List.map_nil, List.append_nil, List.nil_append, List.cons_append, List.length_cons, List.length_nil, List.replicate_zero, List.replicate_succ, List.getElem?_cons_zero, List.getElem?_cons_succ, List.set_cons_zero, List.set_cons_succ, List.all_cons, List.all_nil, Bool.and_true, Bool.true_and, Nat.sub_self, Nat.add_sub_cancel_left, zeroNat, if_true, reduceCtorEq, true_and, and_true, ite_true, ite_false, Bool.false_eq_true, if_false, Nat.reduceAdd, Nat.reduceSub, Nat.reduceLT, Nat.zero_add, List.all, Bool.and_self, Int.reduceToNat, List.reduceReplicate, List.flatten_cons, List.flatten_nil, eq_self, permD, List.getD_cons_zero, List.getD_cons_succ, sIx21, List.take_succ_cons, List.take_zero, Nat.reduceLeDiff, and_self, decide_true, decide_false, Bool.not_true, Bool.not_false, c1]
    exact main _
end
end Bn

set_option Elab.async false
set_option linter.all false
set_option maxRecDepth 100000
/-! Bn, part 22: repr; more figures. -/
namespace Bn
open PySem L2
mutual
def D.rp : D → Prop
  | .non | .bl _ => True
  | .int i => Sz 1900 i
  | .tup xs | .lst xs => rps xs
  | .str _ | .scr _ | .cell _ | .bor _ | .pin _ _ => False
def rps : List D → Prop
  | [] => True
  | x :: xs => x.rp ∧ rps xs
end
theorem rp_int {i : Int} (h : Sz 1900 i) : (PyData.int i).showable = true ∧ (PyData.int i).leavesShort 1901 = true := by
  have h' : i.natAbs < 2 ^ 1900 := h
  constructor
  · simp only [PyData.showable, decide_eq_true_eq]
    by_cases c : i.natAbs = 0
    · rw [c]
      decide
    · rw [Nat.log2_lt c]
      exact Nat.lt_of_lt_of_le h' (Nat.pow_le_pow_right (by decide) (by decide))
  · simp only [PyData.leavesShort, decide_eq_true_eq]
    show (Str.ofString (toString i)).length ≤ 1901
    rw [ofString_length]
    exact int_text_length_le10 (k := 1900) (by decide) (Nat.lt_of_lt_of_le h' (Nat.pow_le_pow_left (by decide) _))
mutual
theorem rp_all : ∀ {d : D}, d.rp → d.plain = true ∧ d.py.showable = true ∧ d.py.leavesShort 1901 = true
  | .non, _ => ⟨rfl, rfl, rfl⟩
  | .bl _, _ => ⟨rfl, rfl, rfl⟩
  | .int i, h => ⟨rfl, (rp_int (by simpa only [D.rp] using h)).1, (rp_int (by simpa only [D.rp] using h)).2⟩
  | .tup xs, h => by
    have z := rps_all (xs := xs) (by simpa only [D.rp] using h)
    simp only [D.plain, D.py, PyData.showable, PyData.leavesShort]
    exact z
  | .lst xs, h => by
    have z := rps_all (xs := xs) (by simpa only [D.rp] using h)
    simp only [D.plain, D.py, PyData.showable, PyData.leavesShort]
    exact z
  | .str _, h => by simp [D.rp] at h
  | .scr _, h => by simp [D.rp] at h
  | .cell _, h => by simp [D.rp] at h
  | .bor _, h => by simp [D.rp] at h
  | .pin _ _, h => by simp [D.rp] at h
theorem rps_all : ∀ {xs : List D}, rps xs → plains xs = true ∧ PyData.showableAll (pys xs) = true ∧ PyData.leavesShortAll 1901 (pys xs) = true
  | [], _ => ⟨rfl, rfl, rfl⟩
  | x :: xs, h => by
    simp only [rps] at h
    obtain ⟨a1, a2, a3⟩ := rp_all h.1
    obtain ⟨b1, b2, b3⟩ := rps_all h.2
    simp only [plains, pys, PyData.showableAll, PyData.leavesShortAll, a1, a2, a3, b1, b2, b3]
    exact ⟨rfl, rfl, rfl⟩
end
theorem repr_ok {d : D} (h : d.rp) (hd : Nat.ble d.py.depth 60 = true) (hb : Nat.ble d.py.bulk 8000 = true) : d.plain = true ∧ d.py.showable = true ∧ d.py.depth ≤ 60 ∧ d.py.shown.length ≤ sizeLine := by
  obtain ⟨a1, a2, a3⟩ := rp_all h
  refine ⟨a1, a2, Nat.le_of_ble_eq_true hd, ?_⟩
  have b := PyData.shown_le_bulk 1901 (by decide) _ a3
  have c := Nat.le_of_ble_eq_true hb
  have e : (1901 + 2) * d.py.bulk ≤ 1903 * 8000 := Nat.mul_le_mul (by decide) c
  refine Nat.le_trans b (Nat.le_trans (Nat.add_le_add_right e _) (by decide))
theorem fr_rp {b : Nat} {q : Rat} (h : Bd b q) (l : b ≤ 1900) : (fr q).rp := by
  simp only [fr, D.rp, rps]
  exact ⟨h.1.mono l, h.2.mono l, trivial⟩
section
variable (fs : List Fd) (cs : List D) (n i : Nat)
def SNum : Prop := ∀ (m k c : Nat) (t y : Int) (W : Ce) (Q : D → Ce → Prop), Wl k (c + 2) W → 0 ≤ t → t < 1000 → 0 < y → y < 1000 → (∀ (q : Rat) (W' : Ce), Bd 12 q → Wl k c W' → Q (fr q) W') → wpC fs cs (m + n) i [.cell k, .int t, .int y] W Q
def SRim : Prop := ∀ (m k c : Nat) (W : Ce) (Q : D → Ce → Prop), Wl k (c + 3) W → (∀ (x y : Rat) (W' : Ce), Bd 24 x → Bd 24 y → x * x + y * y = 1 → Wl k c W' → Q (.tup [fr x, fr y]) W') → wpC fs cs (m + n) i [.cell k] W Q
/-- the difference of the cross products, as it is compared with 0 -/
def bey (x y : Rat) : Int := x.num * y.den - y.num * x.den
def SBey : Prop := ∀ (m : Nat) (x y : Rat) (b c : Nat) (W : Ce) (Q : D → Ce → Prop), Bd b x → Bd c y → b + c ≤ 5000 → Q (.int (bey x y)) W → wpC fs cs (m + n) i [fr x, fr y] W Q
end
theorem bey_le (x y : Rat) : (bey x y ≤ 0) = (x ≤ y) := by
  apply propext
  rw [Rat.le_iff]
  unfold bey
  omega
theorem bey_lt (x y : Rat) : (bey x y < 0) = (x < y) := by
  apply propext
  rw [Rat.lt_iff]
  unfold bey
  omega
theorem bey_eq (x y : Rat) : (bey x y = 0) = (x = y) := by
  apply propext
  constructor
  · intro h
    have h1 : x ≤ y := by rw [← bey_le]; omega
    have h2 : y ≤ x := by
      rw [Rat.le_iff]
      unfold bey at h
      omega
    exact Rat.le_antisymm h1 h2
  · rintro rfl
    unfold bey
    omega
def fd_lbeyond : Fd := ⟨2, 2, .cons (.ret (.bin .sub (.bin .mul (.ix (.var 0) (.con (.int 0))) (.ix (.var 1) (.con (.int 1)))) (.bin .mul (.ix (.var 1) (.con (.int 0))) (.ix (.var 0) (.con (.int 1)))))) .nil⟩
def fd_lnumber (p r : Nat) : Fd := ⟨4, 3, .cons (.asg (.name 3) (.bin .sub (.call p (.cons (.var 0) (.cons (.bin .add (.bin .mul (.con (.int 2)) (.var 1)) (.con (.int 1))) .nil))) (.var 1))) (.cons (.ret (.call r (.cons (.var 3) (.cons (.bin .add (.con (.int 1)) (.call p (.cons (.var 0) (.cons (.var 2) .nil)))) .nil)))) .nil)⟩
def fd_lrim (p r : Nat) (a b c : Int) : Fd := ⟨5, 1, .cons (.par2 1 2 (.bin .add (.con (.int 1)) (.call p (.cons (.var 0) (.cons (.con (.int a)) .nil)))) (.bin .sub (.call p (.cons (.var 0) (.cons (.con (.int b)) .nil))) (.con (.int c)))) (.cons (.par2 3 4 (.call r (.cons (.bin .sub (.bin .mul (.var 1) (.var 1)) (.bin .mul (.var 2) (.var 2))) (.cons (.bin .add (.bin .mul (.var 1) (.var 1)) (.bin .mul (.var 2) (.var 2))) .nil))) (.call r (.cons (.bin .mul (.bin .mul (.con (.int 2)) (.var 1)) (.var 2)) (.cons (.bin .add (.bin .mul (.var 1) (.var 1)) (.bin .mul (.var 2) (.var 2))) .nil)))) (.cons (.ret (.ite (.cmp .eq (.call p (.cons (.var 0) (.cons (.con (.int 2)) .nil))) (.con (.int 0))) (.tup (.cons (.var 3) (.cons (.var 4) .nil))) (.tup (.cons (.var 4) (.cons (.var 3) .nil))))) .nil))⟩
section
variable {fs : List Fd} {cs : List D} {n n2 i j j2 : Nat}
theorem lbeyond_ok (h : fs[i]? = some fd_lbeyond) : SBey fs cs 1 i := by
  intro m x y b c W Q hx hy hb hQ
  refine wpC_step h rfl ?_
  simp only [fd_lbeyond, fr, ↓w_for, ↓w_lc, b_add, b_addT, b_addL, b_sub, b_mul, b_mulL, b_mulT, b_fdiv, b_mod, b_pow, c_lt, c_le, c_gt, c_ge, c_eq, c_ne, c_eqS, c_neS, c_eq_tup, c_ne_tup, c_eq_lst, c_ne_lst, c_eq_bl, c_ne_bl, c_inT, c_ninT, i_int, i_intB, i_abs, i_dm, i_len_tup, i_len_lst, i_len_scr, i_max, i_min, i_gcd, i_isqrt, i_tuple1_tup, i_tuple1_lst, i_list1_tup, i_list1_lst, i_all, i_any, i_sum, i_repr_tup, i_repr_lst, i_repr_bl, i_repr_int, y_bl, y_int, y_str, y_tup, y_lst, y_non, it_tup, it_lst, it_scr, t_bl, t_int, t_tup, t_lst, t_non, w_cons, w_nil, wpS, wpE, wpEs, wpG, wpGs, wpI, wpT, startD, nb_fr, view_fr, it_fr, nb_int, nb_tup, nb_bl, nb_str, nb_lst, nb_scr, nb_non, nb_cell, nbs, g_name, g_tup, gsets, wipeD, noOw, itOk, view_int, view_tup, view_bl, view_str, view_lst, view_scr, view_non, at0, at1, at2, at3, ix0, ix1, ix2, tgN, List.map_cons, List.map_nil, List.append_nil, List.nil_append, List.cons_append, List.length_cons, List.length_nil, List.replicate_zero, List.replicate_succ, List.getElem?_cons_zero, List.getElem?_cons_succ, List.set_cons_zero, List.set_cons_succ, List.all_cons, List.all_nil, Bool.and_true, Bool.true_and, Nat.sub_self, Nat.add_sub_cancel_left, zeroNat, if_true, reduceCtorEq, true_and, and_true, ite_true, ite_false, Bool.false_eq_true, if_false, Nat.reduceAdd, Nat.reduceSub, Nat.reduceLT, Nat.zero_add, List.all, Bool.and_self, Int.reduceToNat, List.reduceReplicate, List.flatten_cons, List.flatten_nil, eq_self, permD, List.getD_cons_zero, List.getD_cons_succ, sIx21, List.take_succ_cons, List.take_zero, Nat.reduceLeDiff, and_self, decide_true, decide_false, Bool.not_true, Bool.not_false, rest_cons]
  exact ⟨hx.1.cmul hy.2 (by omega), hy.1.cmul hx.2 (by omega), hQ⟩
theorem lnumber_ok (hp : SPull fs cs n j) (hr : SRatio fs cs n j2) (h : fs[i]? = some (fd_lnumber j j2)) : SNum fs cs (n + 1) i := by
  intro m k c t y W Q hw ht ht2 hy hy2 hQ
  refine wpC_step h rfl ?_
  simp only [fd_lnumber, ↓w_for, ↓w_lc, b_add, b_addT, b_addL, b_sub, b_mul, b_mulL, b_mulT, b_fdiv, b_mod, b_pow, c_lt, c_le, c_gt, c_ge, c_eq, c_ne, c_eqS, c_neS, c_eq_tup, c_ne_tup, c_eq_lst, c_ne_lst, c_eq_bl, c_ne_bl, c_inT, c_ninT, i_int, i_intB, i_abs, i_dm, i_len_tup, i_len_lst, i_len_scr, i_max, i_min, i_gcd, i_isqrt, i_tuple1_tup, i_tuple1_lst, i_list1_tup, i_list1_lst, i_all, i_any, i_sum, i_repr_tup, i_repr_lst, i_repr_bl, i_repr_int, y_bl, y_int, y_str, y_tup, y_lst, y_non, it_tup, it_lst, it_scr, t_bl, t_int, t_tup, t_lst, t_non, w_cons, w_nil, wpS, wpE, wpEs, wpG, wpGs, wpI, wpT, startD, nb_fr, view_fr, it_fr, nb_int, nb_tup, nb_bl, nb_str, nb_lst, nb_scr, nb_non, nb_cell, nbs, g_name, g_tup, gsets, wipeD, noOw, itOk, view_int, view_tup, view_bl, view_str, view_lst, view_scr, view_non, at0, at1, at2, at3, ix0, ix1, ix2, tgN, List.map_cons, List.map_nil, List.append_nil, List.nil_append, List.cons_append, List.length_cons, List.length_nil, List.replicate_zero, List.replicate_succ, List.getElem?_cons_zero, List.getElem?_cons_succ, List.set_cons_zero, List.set_cons_succ, List.all_cons, List.all_nil, Bool.and_true, Bool.true_and, Nat.sub_self, Nat.add_sub_cancel_left, zeroNat, if_true, reduceCtorEq, true_and, and_true, ite_true, ite_false, Bool.false_eq_true, if_false, Nat.reduceAdd, Nat.reduceSub, Nat.reduceLT, Nat.zero_add, List.all, Bool.and_self, Int.reduceToNat, List.reduceReplicate, List.flatten_cons, List.flatten_nil, eq_self, permD, List.getD_cons_zero, List.getD_cons_succ, sIx21, List.take_succ_cons, List.take_zero, Nat.reduceLeDiff, and_self, decide_true, decide_false, Bool.not_true, Bool.not_false]
  refine ⟨Sz.cmul (b := 4) (c := 20) (by unfold Sz; decide) (by unfold Sz; omega) (by decide), ?_⟩
  refine hp m k (c + 1) (2 * t + 1) W _ hw (by omega) (by omega) (fun r W1 h1 h2 hw1 => ?_)
  simp only [↓w_for, ↓w_lc, b_add, b_addT, b_addL, b_sub, b_mul, b_mulL, b_mulT, b_fdiv, b_mod, b_pow, c_lt, c_le, c_gt, c_ge, c_eq, c_ne, c_eqS, c_neS, c_eq_tup, c_ne_tup, c_eq_lst, c_ne_lst, c_eq_bl, c_ne_bl, c_inT, c_ninT, i_int, i_intB, i_abs, i_dm, i_len_tup, i_len_lst, i_len_scr, i_max, i_min, i_gcd, i_isqrt, i_tuple1_tup, i_tuple1_lst, i_list1_tup, i_list1_lst, i_all, i_any, i_sum, i_repr_tup, i_repr_lst, i_repr_bl, i_repr_int, y_bl, y_int, y_str, y_tup, y_lst, y_non, it_tup, it_lst, it_scr, t_bl, t_int, t_tup, t_lst, t_non, w_cons, w_nil, wpS, wpE, wpEs, wpG, wpGs, wpI, wpT, startD, nb_fr, view_fr, it_fr, nb_int, nb_tup, nb_bl, nb_str, nb_lst, nb_scr, nb_non, nb_cell, nbs, g_name, g_tup, gsets, wipeD, noOw, itOk, view_int, view_tup, view_bl, view_str, view_lst, view_scr, view_non, at0, at1, at2, at3, ix0, ix1, ix2, tgN, List.map_cons, List.map_nil, List.append_nil, List.nil_append, List.cons_append, List.length_cons, List.length_nil, List.replicate_zero, List.replicate_succ, List.getElem?_cons_zero, List.getElem?_cons_succ, List.set_cons_zero, List.set_cons_succ, List.all_cons, List.all_nil, Bool.and_true, Bool.true_and, Nat.sub_self, Nat.add_sub_cancel_left, zeroNat, if_true, reduceCtorEq, true_and, and_true, ite_true, ite_false, Bool.false_eq_true, if_false, Nat.reduceAdd, Nat.reduceSub, Nat.reduceLT, Nat.zero_add, List.all, Bool.and_self, Int.reduceToNat, List.reduceReplicate, List.flatten_cons, List.flatten_nil, eq_self, permD, List.getD_cons_zero, List.getD_cons_succ, sIx21, List.take_succ_cons, List.take_zero, Nat.reduceLeDiff, and_self, decide_true, decide_false, Bool.not_true, Bool.not_false, rest_cons]
  refine hp m k c y W1 _ hw1 hy (by omega) (fun s W2 h3 h4 hw2 => ?_)
  simp only [↓w_for, ↓w_lc, b_add, b_addT, b_addL, b_sub, b_mul, b_mulL, b_mulT, b_fdiv, b_mod, b_pow, c_lt, c_le, c_gt, c_ge, c_eq, c_ne, c_eqS, c_neS, c_eq_tup, c_ne_tup, c_eq_lst, c_ne_lst, c_eq_bl, c_ne_bl, c_inT, c_ninT, i_int, i_intB, i_abs, i_dm, i_len_tup, i_len_lst, i_len_scr, i_max, i_min, i_gcd, i_isqrt, i_tuple1_tup, i_tuple1_lst, i_list1_tup, i_list1_lst, i_all, i_any, i_sum, i_repr_tup, i_repr_lst, i_repr_bl, i_repr_int, y_bl, y_int, y_str, y_tup, y_lst, y_non, it_tup, it_lst, it_scr, t_bl, t_int, t_tup, t_lst, t_non, w_cons, w_nil, wpS, wpE, wpEs, wpG, wpGs, wpI, wpT, startD, nb_fr, view_fr, it_fr, nb_int, nb_tup, nb_bl, nb_str, nb_lst, nb_scr, nb_non, nb_cell, nbs, g_name, g_tup, gsets, wipeD, noOw, itOk, view_int, view_tup, view_bl, view_str, view_lst, view_scr, view_non, at0, at1, at2, at3, ix0, ix1, ix2, tgN, List.map_cons, List.map_nil, List.append_nil, List.nil_append, List.cons_append, List.length_cons, List.length_nil, List.replicate_zero, List.replicate_succ, List.getElem?_cons_zero, List.getElem?_cons_succ, List.set_cons_zero, List.set_cons_succ, List.all_cons, List.all_nil, Bool.and_true, Bool.true_and, Nat.sub_self, Nat.add_sub_cancel_left, zeroNat, if_true, reduceCtorEq, true_and, and_true, ite_true, ite_false, Bool.false_eq_true, if_false, Nat.reduceAdd, Nat.reduceSub, Nat.reduceLT, Nat.zero_add, List.all, Bool.and_self, Int.reduceToNat, List.reduceReplicate, List.flatten_cons, List.flatten_nil, eq_self, permD, List.getD_cons_zero, List.getD_cons_succ, sIx21, List.take_succ_cons, List.take_zero, Nat.reduceLeDiff, and_self, decide_true, decide_false, Bool.not_true, Bool.not_false, rest_cons]
  have s1 : Sz 12 (r - t) := by unfold Sz; omega
  have s2 : Sz 12 (1 + s) := by unfold Sz; omega
  refine hr m (r - t) (1 + s) 12 W2 _ s1 s2 (by decide) (by omega) ⟨rfl, hQ _ _ (divInt_sz s1 s2 (by omega)) hw2⟩
theorem rim_one {a b : Int} (h : 0 < a) : Rat.divInt (a * a - b * b) (a * a + b * b) * Rat.divInt (a * a - b * b) (a * a + b * b) + Rat.divInt (2 * a * b) (a * a + b * b) * Rat.divInt (2 * a * b) (a * a + b * b) = 1 := by
  have h1 : a * a + b * b ≠ 0 := by
    have h2 : 0 < a * a := Int.mul_pos h h
    have h3 : 0 ≤ b * b := by
      rcases Int.le_total 0 b with z | z
      · exact Int.mul_nonneg z z
      · exact Int.mul_nonneg_of_nonpos_of_nonpos z z
    omega
  have h2 : ((a * a + b * b : Int) : Rat) ≠ 0 := by exact_mod_cast h1
  simp only [Rat.divInt_eq_div, Rat.intCast_add, Rat.intCast_sub, Rat.intCast_mul] at *
  have e : ((2 : Int) : Rat) = 2 := rfl
  rw [e]
  grind
theorem lrim_ok {a b c : Int} (ha : 0 < a) (ha2 : a < 500) (hb : 0 < b) (hb2 : b < 500) (hc : 0 ≤ c) (hc2 : c < 500) (hp : SPull fs cs n j) (hr : SRatio fs cs n j2) (h : fs[i]? = some (fd_lrim j j2 a b c)) : SRim fs cs (n + 1) i := by
  intro m k e W Q hw hQ
  refine wpC_step h rfl ?_
  simp only [fd_lrim, ↓w_for, ↓w_lc, b_add, b_addT, b_addL, b_sub, b_mul, b_mulL, b_mulT, b_fdiv, b_mod, b_pow, c_lt, c_le, c_gt, c_ge, c_eq, c_ne, c_eqS, c_neS, c_eq_tup, c_ne_tup, c_eq_lst, c_ne_lst, c_eq_bl, c_ne_bl, c_inT, c_ninT, i_int, i_intB, i_abs, i_dm, i_len_tup, i_len_lst, i_len_scr, i_max, i_min, i_gcd, i_isqrt, i_tuple1_tup, i_tuple1_lst, i_list1_tup, i_list1_lst, i_all, i_any, i_sum, i_repr_tup, i_repr_lst, i_repr_bl, i_repr_int, y_bl, y_int, y_str, y_tup, y_lst, y_non, it_tup, it_lst, it_scr, t_bl, t_int, t_tup, t_lst, t_non, w_cons, w_nil, wpS, wpE, wpEs, wpG, wpGs, wpI, wpT, startD, nb_fr, view_fr, it_fr, nb_int, nb_tup, nb_bl, nb_str, nb_lst, nb_scr, nb_non, nb_cell, nbs, g_name, g_tup, gsets, wipeD, noOw, itOk, view_int, view_tup, view_bl, view_str, view_lst, view_scr, view_non, at0, at1, at2, at3, ix0, ix1, ix2, tgN, List.map_cons, List.map_nil, List.append_nil, List.nil_append, List.cons_append, List.length_cons, List.length_nil, List.replicate_zero, List.replicate_succ, List.getElem?_cons_zero, List.getElem?_cons_succ, List.set_cons_zero, List.set_cons_succ, List.all_cons, List.all_nil, Bool.and_true, Bool.true_and, Nat.sub_self, Nat.add_sub_cancel_left, zeroNat, if_true, reduceCtorEq, true_and, and_true, ite_true, ite_false, Bool.false_eq_true, if_false, Nat.reduceAdd, Nat.reduceSub, Nat.reduceLT, Nat.zero_add, List.all, Bool.and_self, Int.reduceToNat, List.reduceReplicate, List.flatten_cons, List.flatten_nil, eq_self, permD, List.getD_cons_zero, List.getD_cons_succ, sIx21, List.take_succ_cons, List.take_zero, Nat.reduceLeDiff, and_self, decide_true, decide_false, Bool.not_true, Bool.not_false]
  refine hp m k (e + 2) a W _ hw (by omega) (by omega) (fun r W1 h1 h2 hw1 => ?_)
  simp only [↓w_for, ↓w_lc, b_add, b_addT, b_addL, b_sub, b_mul, b_mulL, b_mulT, b_fdiv, b_mod, b_pow, c_lt, c_le, c_gt, c_ge, c_eq, c_ne, c_eqS, c_neS, c_eq_tup, c_ne_tup, c_eq_lst, c_ne_lst, c_eq_bl, c_ne_bl, c_inT, c_ninT, i_int, i_intB, i_abs, i_dm, i_len_tup, i_len_lst, i_len_scr, i_max, i_min, i_gcd, i_isqrt, i_tuple1_tup, i_tuple1_lst, i_list1_tup, i_list1_lst, i_all, i_any, i_sum, i_repr_tup, i_repr_lst, i_repr_bl, i_repr_int, y_bl, y_int, y_str, y_tup, y_lst, y_non, it_tup, it_lst, it_scr, t_bl, t_int, t_tup, t_lst, t_non, w_cons, w_nil, wpS, wpE, wpEs, wpG, wpGs, wpI, wpT, startD, nb_fr, view_fr, it_fr, nb_int, nb_tup, nb_bl, nb_str, nb_lst, nb_scr, nb_non, nb_cell, nbs, g_name, g_tup, gsets, wipeD, noOw, itOk, view_int, view_tup, view_bl, view_str, view_lst, view_scr, view_non, at0, at1, at2, at3, ix0, ix1, ix2, tgN, List.map_cons, List.map_nil, List.append_nil, List.nil_append, List.cons_append, List.length_cons, List.length_nil, List.replicate_zero, List.replicate_succ, List.getElem?_cons_zero, List.getElem?_cons_succ, List.set_cons_zero, List.set_cons_succ, List.all_cons, List.all_nil, Bool.and_true, Bool.true_and, Nat.sub_self, Nat.add_sub_cancel_left, zeroNat, if_true, reduceCtorEq, true_and, and_true, ite_true, ite_false, Bool.false_eq_true, if_false, Nat.reduceAdd, Nat.reduceSub, Nat.reduceLT, Nat.zero_add, List.all, Bool.and_self, Int.reduceToNat, List.reduceReplicate, List.flatten_cons, List.flatten_nil, eq_self, permD, List.getD_cons_zero, List.getD_cons_succ, sIx21, List.take_succ_cons, List.take_zero, Nat.reduceLeDiff, and_self, decide_true, decide_false, Bool.not_true, Bool.not_false]
  refine hp m k (e + 1) b W1 _ hw1 (by omega) (by omega) (fun s W2 h3 h4 hw2 => ?_)
  simp only [↓w_for, ↓w_lc, b_add, b_addT, b_addL, b_sub, b_mul, b_mulL, b_mulT, b_fdiv, b_mod, b_pow, c_lt, c_le, c_gt, c_ge, c_eq, c_ne, c_eqS, c_neS, c_eq_tup, c_ne_tup, c_eq_lst, c_ne_lst, c_eq_bl, c_ne_bl, c_inT, c_ninT, i_int, i_intB, i_abs, i_dm, i_len_tup, i_len_lst, i_len_scr, i_max, i_min, i_gcd, i_isqrt, i_tuple1_tup, i_tuple1_lst, i_list1_tup, i_list1_lst, i_all, i_any, i_sum, i_repr_tup, i_repr_lst, i_repr_bl, i_repr_int, y_bl, y_int, y_str, y_tup, y_lst, y_non, it_tup, it_lst, it_scr, t_bl, t_int, t_tup, t_lst, t_non, w_cons, w_nil, wpS, wpE, wpEs, wpG, wpGs, wpI, wpT, startD, nb_fr, view_fr, it_fr, nb_int, nb_tup, nb_bl, nb_str, nb_lst, nb_scr, nb_non, nb_cell, nbs, g_name, g_tup, gsets, wipeD, noOw, itOk, view_int, view_tup, view_bl, view_str, view_lst, view_scr, view_non, at0, at1, at2, at3, ix0, ix1, ix2, tgN, List.map_cons, List.map_nil, List.append_nil, List.nil_append, List.cons_append, List.length_cons, List.length_nil, List.replicate_zero, List.replicate_succ, List.getElem?_cons_zero, List.getElem?_cons_succ, List.set_cons_zero, List.set_cons_succ, List.all_cons, List.all_nil, Bool.and_true, Bool.true_and, Nat.sub_self, Nat.add_sub_cancel_left, zeroNat, if_true, reduceCtorEq, true_and, and_true, ite_true, ite_false, Bool.false_eq_true, if_false, Nat.reduceAdd, Nat.reduceSub, Nat.reduceLT, Nat.zero_add, List.all, Bool.and_self, Int.reduceToNat, List.reduceReplicate, List.flatten_cons, List.flatten_nil, eq_self, permD, List.getD_cons_zero, List.getD_cons_succ, sIx21, List.take_succ_cons, List.take_zero, Nat.reduceLeDiff, and_self, decide_true, decide_false, Bool.not_true, Bool.not_false]
  refine rest_go ?_
  generalize hu : 1 + r = u
  generalize hv : s - c = v
  have su : Sz 10 u := by unfold Sz; omega
  have sv : Sz 10 v := by unfold Sz; omega
  have suu := su.mul su
  have svv := sv.mul sv
  have s1 : Sz 23 (u * u - v * v) := (suu.sub svv).mono (by decide)
  have s2 : Sz 23 (u * u + v * v) := (suu.add svv).mono (by decide)
  have s0 : Sz 12 (2 * u) := by unfold Sz; omega
  have s3 : Sz 23 (2 * u * v) := (s0.mul sv).mono (by decide)
  have h0 : 0 < u * u + v * v := by
    have h2 : 0 < u * u := Int.mul_pos (by omega) (by omega)
    have h3 : 0 ≤ v * v := by
      rcases Int.le_total 0 v with z | z
      · exact Int.mul_nonneg z z
      · exact Int.mul_nonneg_of_nonpos_of_nonpos z z
    omega
  have c1 : CMulX u u := su.cmul su (by decide)
  have c2 : CMulX v v := sv.cmul sv (by decide)
  have c3 : CMulX 2 u := Sz.cmul (b := 4) (by unfold Sz; decide) su (by decide)
  have c4 : CMulX (2 * u) v := s0.cmul sv (by decide)
  simp only [↓w_for, ↓w_lc, b_add, b_addT, b_addL, b_sub, b_mul, b_mulL, b_mulT, b_fdiv, b_mod, b_pow, c_lt, c_le, c_gt, c_ge, c_eq, c_ne, c_eqS, c_neS, c_eq_tup, c_ne_tup, c_eq_lst, c_ne_lst, c_eq_bl, c_ne_bl, c_inT, c_ninT, i_int, i_intB, i_abs, i_dm, i_len_tup, i_len_lst, i_len_scr, i_max, i_min, i_gcd, i_isqrt, i_tuple1_tup, i_tuple1_lst, i_list1_tup, i_list1_lst, i_all, i_any, i_sum, i_repr_tup, i_repr_lst, i_repr_bl, i_repr_int, y_bl, y_int, y_str, y_tup, y_lst, y_non, it_tup, it_lst, it_scr, t_bl, t_int, t_tup, t_lst, t_non, w_cons, w_nil, wpS, wpE, wpEs, wpG, wpGs, wpI, wpT, startD, nb_fr, view_fr, it_fr, nb_int, nb_tup, nb_bl, nb_str, nb_lst, nb_scr, nb_non, nb_cell, nbs, g_name, g_tup, gsets, wipeD, noOw, itOk, view_int, view_tup, view_bl, view_str, view_lst, view_scr, view_non, at0, at1, at2, at3, ix0, ix1, ix2, tgN, List.map_cons, List.map_nil, List.append_nil, List.nil_append, List.cons_append, List.length_cons, List.length_nil, List.replicate_zero, List.replicate_succ, List.getElem?_cons_zero, List.getElem?_cons_succ, List.set_cons_zero, List.set_cons_succ, List.all_cons, List.all_nil, Bool.and_true, Bool.true_and, Nat.sub_self, Nat.add_sub_cancel_left, zeroNat, if_true, reduceCtorEq, true_and, and_true, ite_true, ite_false, Bool.false_eq_true, if_false, Nat.reduceAdd, Nat.reduceSub, Nat.reduceLT, Nat.zero_add, List.all, Bool.and_self, Int.reduceToNat, List.reduceReplicate, List.flatten_cons, List.flatten_nil, eq_self, permD, List.getD_cons_zero, List.getD_cons_succ, sIx21, List.take_succ_cons, List.take_zero, Nat.reduceLeDiff, and_self, decide_true, decide_false, Bool.not_true, Bool.not_false, c1, c2, c3, c4]
  refine hr m _ _ 23 W2 _ s1 s2 (by decide) (by omega) ?_
  refine hr m _ _ 23 W2 _ s3 s2 (by decide) (by omega) ?_
  have b1 := (divInt_sz s1 s2 (by omega)).mono (show 23 ≤ 24 by decide)
  have b2 := (divInt_sz s3 s2 (by omega)).mono (show 23 ≤ 24 by decide)
  have one := rim_one (a := u) (b := v) (by omega)
  refine ⟨⟨rfl, rfl⟩, rest_go ?_⟩
  simp only [↓w_for, ↓w_lc, b_add, b_addT, b_addL, b_sub, b_mul, b_mulL, b_mulT, b_fdiv, b_mod, b_pow, c_lt, c_le, c_gt, c_ge, c_eq, c_ne, c_eqS, c_neS, c_eq_tup, c_ne_tup, c_eq_lst, c_ne_lst, c_eq_bl, c_ne_bl, c_inT, c_ninT, i_int, i_intB, i_abs, i_dm, i_len_tup, i_len_lst, i_len_scr, i_max, i_min, i_gcd, i_isqrt, i_tuple1_tup, i_tuple1_lst, i_list1_tup, i_list1_lst, i_all, i_any, i_sum, i_repr_tup, i_repr_lst, i_repr_bl, i_repr_int, y_bl, y_int, y_str, y_tup, y_lst, y_non, it_tup, it_lst, it_scr, t_bl, t_int, t_tup, t_lst, t_non, w_cons, w_nil, wpS, wpE, wpEs, wpG, wpGs, wpI, wpT, startD, nb_fr, view_fr, it_fr, nb_int, nb_tup, nb_bl, nb_str, nb_lst, nb_scr, nb_non, nb_cell, nbs, g_name, g_tup, gsets, wipeD, noOw, itOk, view_int, view_tup, view_bl, view_str, view_lst, view_scr, view_non, at0, at1, at2, at3, ix0, ix1, ix2, tgN, List.map_cons, List.map_nil, List.append_nil, List.nil_append, List.cons_append, List.length_cons, List.length_nil, List.replicate_zero, List.replicate_succ, List.getElem?_cons_zero, List.getElem?_cons_succ, List.set_cons_zero, List.set_cons_succ, List.all_cons, List.all_nil, Bool.and_true, Bool.true_and, Nat.sub_self, Nat.add_sub_cancel_left, zeroNat, if_true, reduceCtorEq, true_and, and_true, ite_true, ite_false, Bool.false_eq_true, if_false, Nat.reduceAdd, Nat.reduceSub, Nat.reduceLT, Nat.zero_add, List.all, Bool.and_self, Int.reduceToNat, List.reduceReplicate, List.flatten_cons, List.flatten_nil, eq_self, permD, List.getD_cons_zero, List.getD_cons_succ, sIx21, List.take_succ_cons, List.take_zero, Nat.reduceLeDiff, and_self, decide_true, decide_false, Bool.not_true, Bool.not_false]
  refine hp m k e 2 W2 _ hw2 (by omega) (by omega) (fun z W3 h5 h6 hw3 => ?_)
  cases hz : decide (z = 0) with
  | true =>
    simp only [↓w_for, ↓w_lc, b_add, b_addT, b_addL, b_sub, b_mul, b_mulL, b_mulT, b_fdiv, b_mod, b_pow, c_lt, c_le, c_gt, c_ge, c_eq, c_ne, c_eqS, c_neS, c_eq_tup, c_ne_tup, c_eq_lst, c_ne_lst, c_eq_bl, c_ne_bl, c_inT, c_ninT, i_int, i_intB, i_abs, i_dm, i_len_tup, i_len_lst, i_len_scr, i_max, i_min, i_gcd, i_isqrt, i_tuple1_tup, i_tuple1_lst, i_list1_tup, i_list1_lst, i_all, i_any, i_sum, i_repr_tup, i_repr_lst, i_repr_bl, i_repr_int, y_bl, y_int, y_str, y_tup, y_lst, y_non, it_tup, it_lst, it_scr, t_bl, t_int, t_tup, t_lst, t_non, w_cons, w_nil, wpS, wpE, wpEs, wpG, wpGs, wpI, wpT, startD, nb_fr, view_fr, it_fr, nb_int, nb_tup, nb_bl, nb_str, nb_lst, nb_scr, nb_non, nb_cell, nbs, g_name, g_tup, gsets, wipeD, noOw, itOk, view_int, view_tup, view_bl, view_str, view_lst, view_scr, view_non, at0, at1, at2, at3, ix0, ix1, ix2, tgN, List.map_cons, List.map_nil, List.append_nil, List.nil_append, List.cons_append, List.length_cons, List.length_nil, List.replicate_zero, List.replicate_succ, List.getElem?_cons_zero, List.getElem?_cons_succ, List.set_cons_zero, List.set_cons_succ, List.all_cons, List.all_nil, Bool.and_true, Bool.true_and, Nat.sub_self, Nat.add_sub_cancel_left, zeroNat, if_true, reduceCtorEq, true_and, and_true, ite_true, ite_false, Bool.false_eq_true, if_false, Nat.reduceAdd, Nat.reduceSub, Nat.reduceLT, Nat.zero_add, List.all, Bool.and_self, Int.reduceToNat, List.reduceReplicate, List.flatten_cons, List.flatten_nil, eq_self, permD, List.getD_cons_zero, List.getD_cons_succ, sIx21, List.take_succ_cons, List.take_zero, Nat.reduceLeDiff, and_self, decide_true, decide_false, Bool.not_true, Bool.not_false, hz]
    exact ⟨by decide, hQ _ _ _ b1 b2 one hw3⟩
  | false =>
    simp only [↓w_for, ↓w_lc, b_add, b_addT, b_addL, b_sub, b_mul, b_mulL, b_mulT, b_fdiv, b_mod, b_pow, c_lt, c_le, c_gt, c_ge, c_eq, c_ne, c_eqS, c_neS, c_eq_tup, c_ne_tup, c_eq_lst, c_ne_lst, c_eq_bl, c_ne_bl, c_inT, c_ninT, i_int, i_intB, i_abs, i_dm, i_len_tup, i_len_lst, i_len_scr, i_max, i_min, i_gcd, i_isqrt, i_tuple1_tup, i_tuple1_lst, i_list1_tup, i_list1_lst, i_all, i_any, i_sum, i_repr_tup, i_repr_lst, i_repr_bl, i_repr_int, y_bl, y_int, y_str, y_tup, y_lst, y_non, it_tup, it_lst, it_scr, t_bl, t_int, t_tup, t_lst, t_non, w_cons, w_nil, wpS, wpE, wpEs, wpG, wpGs, wpI, wpT, startD, nb_fr, view_fr, it_fr, nb_int, nb_tup, nb_bl, nb_str, nb_lst, nb_scr, nb_non, nb_cell, nbs, g_name, g_tup, gsets, wipeD, noOw, itOk, view_int, view_tup, view_bl, view_str, view_lst, view_scr, view_non, at0, at1, at2, at3, ix0, ix1, ix2, tgN, List.map_cons, List.map_nil, List.append_nil, List.nil_append, List.cons_append, List.length_cons, List.length_nil, List.replicate_zero, List.replicate_succ, List.getElem?_cons_zero, List.getElem?_cons_succ, List.set_cons_zero, List.set_cons_succ, List.all_cons, List.all_nil, Bool.and_true, Bool.true_and, Nat.sub_self, Nat.add_sub_cancel_left, zeroNat, if_true, reduceCtorEq, true_and, and_true, ite_true, ite_false, Bool.false_eq_true, if_false, Nat.reduceAdd, Nat.reduceSub, Nat.reduceLT, Nat.zero_add, List.all, Bool.and_self, Int.reduceToNat, List.reduceReplicate, List.flatten_cons, List.flatten_nil, eq_self, permD, List.getD_cons_zero, List.getD_cons_succ, sIx21, List.take_succ_cons, List.take_zero, Nat.reduceLeDiff, and_self, decide_true, decide_false, Bool.not_true, Bool.not_false, hz]
    refine ⟨by decide, hQ _ _ _ b2 b1 ?_ hw3⟩
    rw [Rat.add_comm]
    exact one
end
end Bn

set_option Elab.async false
set_option linter.all false
set_option maxRecDepth 100000
set_option maxHeartbeats 0
namespace K20
open PySem PySem.Spec PyProof.Rows L2 Bn
-- the small syntax of the law and of what it calls
def f0 : Fd := ⟨1, 1, .cons (.ret (.and (.isi (.var 0) 0) (.not (.isi (.var 0) 1)))) .nil⟩ -- is_whole value
def f1 : Fd := ⟨3, 2, .cons (.ret (.and (.isi (.var 0) 2) (.and (.cmp .eq (.bi .len (.cons (.var 0) .nil)) (.var 1)) (.bi .all1 (.cons (.lc (.val (.var 0)) (.name 2) (.con (.bl true)) (.call 0 (.cons (.var 2) .nil)) [2]) .nil))))) .nil⟩ -- are_wholes value many each
def f2 : Fd := ⟨3, 1, .cons (.asg (.name 1) (.con (.int 0))) (.cons (.sfor (.val (.var 0)) (.name 2) (.cons (.asg (.name 1) (.bi .gcd (.cons (.var 1) (.cons (.var 2) .nil)))) .nil)) (.cons (.ret (.var 1)) .nil))⟩ -- divisor_of numbers found number
def f3 : Fd := ⟨3, 1, .cons (.asg (.name 1) (.call 2 (.cons (.var 0) .nil))) (.cons (.ret (.bi .tuple1 (.cons (.lc (.val (.var 0)) (.name 2) (.con (.bl true)) (.bin .fdiv (.var 2) (.var 1)) [2]) .nil))) .nil)⟩ -- lowest numbers part number
def f4 : Fd := ⟨1, 1, .cons (.ret (.and (.call 1 (.cons (.var 0) (.cons (.con (.int 2)) .nil))) (.and (.cmp .gt (.ix (.var 0) (.con (.int 1))) (.con (.int 0))) (.cmp .eq (.call 2 (.cons (.var 0) .nil)) (.con (.int 1)))))) .nil⟩ -- is_ratio value
def f5 : Fd := ⟨1, 1, .cons (.ret (.and (.call 4 (.cons (.var 0) .nil)) (.cmp .ge (.ix (.var 0) (.con (.int 0))) (.con (.int 0))))) .nil⟩ -- is_from_nought value
def f6 : Fd := ⟨2, 2, .cons (.ret (.ite (.cmp .gt (.var 1) (.con (.int 0))) (.call 3 (.cons (.tup (.cons (.var 0) (.cons (.var 1) .nil))) .nil)) (.call 3 (.cons (.tup (.cons (.neg (.var 0)) (.cons (.neg (.var 1)) .nil))) .nil)))) .nil⟩ -- ratio top under
def f7 : Fd := ⟨2, 2, .cons (.ret (.call 6 (.cons (.bin .add (.bin .mul (.ix (.var 0) (.con (.int 0))) (.ix (.var 1) (.con (.int 1)))) (.bin .mul (.ix (.var 1) (.con (.int 0))) (.ix (.var 0) (.con (.int 1))))) (.cons (.bin .mul (.ix (.var 0) (.con (.int 1))) (.ix (.var 1) (.con (.int 1)))) .nil)))) .nil⟩ -- plus one two
def f8 : Fd := ⟨2, 2, .cons (.ret (.call 6 (.cons (.bin .sub (.bin .mul (.ix (.var 0) (.con (.int 0))) (.ix (.var 1) (.con (.int 1)))) (.bin .mul (.ix (.var 1) (.con (.int 0))) (.ix (.var 0) (.con (.int 1))))) (.cons (.bin .mul (.ix (.var 0) (.con (.int 1))) (.ix (.var 1) (.con (.int 1)))) .nil)))) .nil⟩ -- minus one two
def f9 : Fd := ⟨2, 2, .cons (.ret (.call 6 (.cons (.bin .mul (.ix (.var 0) (.con (.int 0))) (.ix (.var 1) (.con (.int 0)))) (.cons (.bin .mul (.ix (.var 0) (.con (.int 1))) (.ix (.var 1) (.con (.int 1)))) .nil)))) .nil⟩ -- times one two
def f10 : Fd := ⟨1, 1, .cons (.ret (.tup (.cons (.bi .abs (.cons (.ix (.var 0) (.con (.int 0))) .nil)) (.cons (.ix (.var 0) (.con (.int 1))) .nil)))) .nil⟩ -- size_of one
def f11 : Fd := ⟨2, 2, .cons (.ret (.cmp .lt (.bin .mul (.ix (.var 0) (.con (.int 0))) (.ix (.var 1) (.con (.int 1)))) (.bin .mul (.ix (.var 1) (.con (.int 0))) (.ix (.var 0) (.con (.int 1)))))) .nil⟩ -- is_below one two
def f12 : Fd := ⟨1, 1, .cons (.sif (.not (.call 4 (.cons (.var 0) .nil))) (.cons .never .nil) (.nil)) .nil⟩ -- check_fraction value
def f13 : Fd := ⟨1, 1, .cons (.ret (.and (.isi (.var 0) 2) (.and (.cmp .eq (.bi .len (.cons (.var 0) .nil)) (.con (.int 2))) (.and (.call 4 (.cons (.ix (.var 0) (.con (.int 0))) .nil)) (.call 5 (.cons (.ix (.var 0) (.con (.int 1))) .nil)))))) .nil⟩ -- is_disc_by value
def f14 : Fd := ⟨2, 2, .cons (.ret (.not (.call 11 (.cons (.ix (.var 1) (.con (.int 1))) (.cons (.call 7 (.cons (.call 10 (.cons (.call 8 (.cons (.ix (.var 0) (.con (.int 0))) (.cons (.ix (.var 1) (.con (.int 0))) .nil))) .nil)) (.cons (.ix (.var 0) (.con (.int 1))) .nil))) .nil))))) .nil⟩ -- lies_in_by disc other
def f15 : Fd := ⟨1, 1, .cons (.sif (.not (.call 13 (.cons (.var 0) .nil))) (.cons .never .nil) (.nil)) .nil⟩ -- check_disc value
def f16 : Fd := ⟨1, 1, .cons (.ret (.call 13 (.cons (.var 0) .nil))) .nil⟩ -- is_disc value
def f17 : Fd := ⟨2, 2, .cons (.drop (.call 15 (.cons (.var 0) .nil))) (.cons (.drop (.call 15 (.cons (.var 1) .nil))) (.cons (.ret (.call 14 (.cons (.var 0) (.cons (.var 1) .nil)))) .nil))⟩ -- lies_in_disc disc other
def f18 : Fd := ⟨2, 2, .cons (.drop (.call 15 (.cons (.var 0) .nil))) (.cons (.drop (.call 15 (.cons (.var 1) .nil))) (.cons (.ret (.tup (.cons (.call 7 (.cons (.ix (.var 0) (.con (.int 0))) (.cons (.ix (.var 1) (.con (.int 0))) .nil))) (.cons (.call 7 (.cons (.ix (.var 0) (.con (.int 1))) (.cons (.ix (.var 1) (.con (.int 1))) .nil))) .nil)))) .nil))⟩ -- sum_disc disc other
def f19 : Fd := ⟨2, 2, .cons (.drop (.call 15 (.cons (.var 0) .nil))) (.cons (.drop (.call 12 (.cons (.var 1) .nil))) (.cons (.ret (.tup (.cons (.call 9 (.cons (.var 1) (.cons (.ix (.var 0) (.con (.int 0))) .nil))) (.cons (.call 9 (.cons (.call 10 (.cons (.var 1) .nil)) (.cons (.ix (.var 0) (.con (.int 1))) .nil))) .nil)))) .nil))⟩ -- scaled_disc disc fraction
def f20 : Fd := ⟨6, 2, .cons (.asg (.name 2) (.ite (.cmp .lt (.var 1) (.bi .len (.cons (.var 0) .nil))) (.bi .int1 (.cons (.ix (.var 0) (.var 1)) .nil)) (.bin .add (.bin .mul (.con (.int 631)) (.var 1)) (.con (.int 17))))) (.cons (.asg (.name 3) (.bin .add (.con (.int 70003)) (.bin .mul (.con (.int 6211)) (.var 1)))) (.cons (.sfor (.val (.slTo (.var 0) (.con (.int 9)))) (.name 4) (.cons (.asg (.name 3) (.bin .mod (.bi .int1 (.cons (.bin .add (.bin .add (.bin .mul (.var 3) (.con (.int 48731))) (.bin .mod (.bi .int1 (.cons (.var 4) .nil)) (.con (.int 2147483563)))) (.con (.int 5))) .nil)) (.con (.int 2147483563)))) .nil)) (.cons (.asg (.name 5) (.ite (.or (.cmp .lt (.var 2) (.con (.int 0))) (.cmp .ge (.var 2) (.bin .pow (.con (.int 10)) (.con (.int 16))))) (.bi .abs (.cons (.var 2) .nil)) (.con (.int 0)))) (.cons (.retCell (.cons (.var 5) (.cons (.bin .mod (.bi .int1 (.cons (.bin .add (.bin .add (.bin .mul (.var 3) (.con (.int 39))) (.bin .mul (.bin .mod (.bi .int1 (.cons (.var 2) .nil)) (.con (.int 2147483399))) (.con (.int 12391)))) (.var 1)) .nil)) (.con (.int 2147483399))) (.cons (.con (.int 0)) .nil)))) .nil))))⟩ -- _law_well _law_script _law_turn _law_cell _law_seed _law_each _law_deep
def f21 : Fd := ⟨3, 2, .cons (.sif (.cmp .gt (.ix (.var 0) (.con (.int 0))) (.con (.int 0))) (.cons (.asg (.tup (.cons (.ix (.var 0) (.con (.int 0))) (.cons (.name 2) .nil))) (.bi .divmod (.cons (.ix (.var 0) (.con (.int 0))) (.cons (.var 1) .nil)))) (.cons (.ret (.var 2)) .nil)) (.nil)) (.cons (.asg (.ix (.var 0) (.con (.int 2))) (.bin .add (.ix (.var 0) (.con (.int 2))) (.con (.int 1)))) (.cons (.asg (.ix (.var 0) (.con (.int 1))) (.bin .mod (.bi .int1 (.cons (.bin .add (.bin .add (.bin .mul (.ix (.var 0) (.con (.int 1))) (.bin .add (.con (.int 45007)) (.bin .mul (.con (.int 14)) (.ix (.var 0) (.con (.int 2)))))) (.con (.int 30323))) (.bin .mul (.con (.int 5)) (.ix (.var 0) (.con (.int 2))))) .nil)) (.con (.int 2147483629)))) (.cons (.ret (.bin .mod (.bi .int1 (.cons (.bin .fdiv (.ix (.var 0) (.con (.int 1))) (.con (.int 217))) .nil)) (.var 1))) .nil)))⟩ -- _law_pull _law_well_here _law_many _law_figure
def f22 : Fd := ⟨2, 2, .cons (.ret (.ix (.var 1) (.call 21 (.cons (.var 0) (.cons (.bi .len (.cons (.var 1) .nil)) .nil))))) .nil⟩ -- _law_pick _law_well_here _law_some
def f23 : Fd := ⟨3, 2, .cons (.par2 0 1 (.bi .abs (.cons (.var 0) .nil)) (.bi .abs (.cons (.var 1) .nil))) (.cons (.sfor (.rng1 (.bin .add (.bin .mul (.con (.int 2)) (.bits (.var 1))) (.con (.int 3)))) (.name 2) (.cons (.sif (.cmp .eq (.var 1) (.con (.int 0))) (.cons .brk .nil) (.nil)) (.cons (.par2 0 1 (.var 1) (.bin .mod (.bi .int1 (.cons (.var 0) .nil)) (.var 1))) .nil))) (.cons (.ret (.var 0)) .nil))⟩ -- _law_common _law_n _law_m _law_turn
def f24 : Fd := ⟨3, 2, .cons (.asg (.name 2) (.ite (.cmp .gt (.var 1) (.con (.int 0))) (.call 23 (.cons (.var 0) (.cons (.var 1) .nil))) (.bin .sub (.con (.int 0)) (.call 23 (.cons (.var 0) (.cons (.var 1) .nil)))))) (.cons (.ret (.tup (.cons (.bin .fdiv (.var 0) (.var 2)) (.cons (.bin .fdiv (.var 1) (.var 2)) .nil)))) .nil)⟩ -- _law_ratio _law_n _law_m _law_by
def f25 : Fd := ⟨2, 2, .cons (.ret (.call 24 (.cons (.bin .add (.bin .mul (.ix (.var 0) (.con (.int 0))) (.ix (.var 1) (.con (.int 1)))) (.bin .mul (.ix (.var 1) (.con (.int 0))) (.ix (.var 0) (.con (.int 1))))) (.cons (.bin .mul (.ix (.var 0) (.con (.int 1))) (.ix (.var 1) (.con (.int 1)))) .nil)))) .nil⟩ -- _law_plus _law_x _law_y
def f26 : Fd := ⟨2, 2, .cons (.ret (.call 24 (.cons (.bin .sub (.bin .mul (.ix (.var 0) (.con (.int 0))) (.ix (.var 1) (.con (.int 1)))) (.bin .mul (.ix (.var 1) (.con (.int 0))) (.ix (.var 0) (.con (.int 1))))) (.cons (.bin .mul (.ix (.var 0) (.con (.int 1))) (.ix (.var 1) (.con (.int 1)))) .nil)))) .nil⟩ -- _law_minus _law_x _law_y
def f27 : Fd := ⟨2, 2, .cons (.ret (.call 24 (.cons (.bin .mul (.ix (.var 0) (.con (.int 0))) (.ix (.var 1) (.con (.int 0)))) (.cons (.bin .mul (.ix (.var 0) (.con (.int 1))) (.ix (.var 1) (.con (.int 1)))) .nil)))) .nil⟩ -- _law_times _law_x _law_y
def f28 : Fd := ⟨2, 2, .cons (.ret (.bin .sub (.bin .mul (.ix (.var 0) (.con (.int 0))) (.ix (.var 1) (.con (.int 1)))) (.bin .mul (.ix (.var 1) (.con (.int 0))) (.ix (.var 0) (.con (.int 1)))))) .nil⟩ -- _law_beyond _law_x _law_y
def f29 : Fd := ⟨1, 1, .cons (.ret (.tup (.cons (.bi .abs (.cons (.ix (.var 0) (.con (.int 0))) .nil)) (.cons (.ix (.var 0) (.con (.int 1))) .nil)))) .nil⟩ -- _law_size _law_x
def f30 : Fd := ⟨4, 3, .cons (.asg (.name 3) (.bin .sub (.call 21 (.cons (.var 0) (.cons (.bin .add (.bin .mul (.con (.int 2)) (.var 1)) (.con (.int 1))) .nil))) (.var 1))) (.cons (.ret (.call 24 (.cons (.var 3) (.cons (.bin .add (.con (.int 1)) (.call 21 (.cons (.var 0) (.cons (.var 2) .nil)))) .nil)))) .nil)⟩ -- _law_number _law_well_here _law_top _law_most _law_n
def f31 : Fd := ⟨5, 1, .cons (.par2 1 2 (.bin .add (.con (.int 1)) (.call 21 (.cons (.var 0) (.cons (.con (.int 4)) .nil)))) (.bin .sub (.call 21 (.cons (.var 0) (.cons (.con (.int 9)) .nil))) (.con (.int 4)))) (.cons (.par2 3 4 (.call 24 (.cons (.bin .sub (.bin .mul (.var 1) (.var 1)) (.bin .mul (.var 2) (.var 2))) (.cons (.bin .add (.bin .mul (.var 1) (.var 1)) (.bin .mul (.var 2) (.var 2))) .nil))) (.call 24 (.cons (.bin .mul (.bin .mul (.con (.int 2)) (.var 1)) (.var 2)) (.cons (.bin .add (.bin .mul (.var 1) (.var 1)) (.bin .mul (.var 2) (.var 2))) .nil)))) (.cons (.ret (.ite (.cmp .eq (.call 21 (.cons (.var 0) (.cons (.con (.int 2)) .nil))) (.con (.int 0))) (.tup (.cons (.var 3) (.cons (.var 4) .nil))) (.tup (.cons (.var 4) (.cons (.var 3) .nil))))) .nil))⟩ -- _law_rim _law_well_here _law_a _law_b _law_one _law_other
def f32 : Fd := ⟨3, 1, .cons (.asg (.name 1) (.call 30 (.cons (.var 0) (.cons (.con (.int 4)) (.cons (.con (.int 3)) .nil))))) (.cons (.asg (.name 2) (.call 21 (.cons (.var 0) (.cons (.con (.int 5)) .nil)))) (.cons (.ret (.tup (.cons (.var 1) (.cons (.call 24 (.cons (.var 2) (.cons (.bin .add (.con (.int 1)) (.call 21 (.cons (.var 0) (.cons (.con (.int 3)) .nil)))) .nil))) .nil)))) .nil))⟩ -- _law_disc _law_well_here _law_centre _law_radius
def f33 : Fd := ⟨5, 2, .cons (.asg (.name 2) (.call 30 (.cons (.var 0) (.cons (.con (.int 3)) (.cons (.con (.int 3)) .nil))))) (.cons (.asg (.name 3) (.call 22 (.cons (.var 0) (.cons (.tup (.cons (.tup (.cons (.con (.int 0)) (.cons (.con (.int 1)) .nil))) (.cons (.tup (.cons (.con (.int 0)) (.cons (.con (.int 1)) .nil))) (.cons (.tup (.cons (.con (.int 1)) (.cons (.con (.int 3)) .nil))) (.cons (.tup (.cons (.neg (.con (.int 1))) (.cons (.con (.int 5)) .nil))) (.cons (.tup (.cons (.neg (.con (.int 1))) (.cons (.con (.int 60)) .nil))) .nil)))))) .nil)))) (.cons (.asg (.name 4) (.call 25 (.cons (.call 25 (.cons (.ix (.var 1) (.con (.int 1))) (.cons (.call 29 (.cons (.var 2) .nil)) .nil))) (.cons (.var 3) .nil)))) (.cons (.ret (.tup (.cons (.call 25 (.cons (.ix (.var 1) (.con (.int 0))) (.cons (.var 2) .nil))) (.cons (.ite (.cmp .ge (.ix (.var 4) (.con (.int 0))) (.con (.int 0))) (.var 4) (.tup (.cons (.con (.int 0)) (.cons (.con (.int 1)) .nil)))) .nil)))) .nil)))⟩ -- _law_about _law_well_here _law_disc_here _law_move _law_more _law_radius
def f34 : Fd := ⟨5, 2, .cons (.asg (.tup (.cons (.name 2) (.cons (.name 3) .nil))) (.call 31 (.cons (.var 0) .nil))) (.cons (.asg (.name 4) (.call 27 (.cons (.ix (.var 1) (.con (.int 1))) (.cons (.call 22 (.cons (.var 0) (.cons (.tup (.cons (.tup (.cons (.con (.int 1)) (.cons (.con (.int 1)) .nil))) (.cons (.tup (.cons (.con (.int 1)) (.cons (.con (.int 1)) .nil))) (.cons (.tup (.cons (.con (.int 1)) (.cons (.con (.int 2)) .nil))) (.cons (.tup (.cons (.con (.int 0)) (.cons (.con (.int 1)) .nil))) .nil))))) .nil))) .nil)))) (.cons (.ret (.tup (.cons (.call 25 (.cons (.ix (.var 1) (.con (.int 0))) (.cons (.call 27 (.cons (.var 4) (.cons (.var 2) .nil))) .nil))) (.cons (.call 27 (.cons (.var 4) (.cons (.var 3) .nil))) .nil)))) .nil))⟩ -- _law_turn_of _law_well_here _law_disc_here _law_x _law_y _law_by
def f35 : Fd := ⟨5, 2, .cons (.par2 2 3 (.call 26 (.cons (.ix (.var 1) (.con (.int 0))) (.cons (.ix (.var 0) (.con (.int 0))) .nil))) (.ix (.var 1) (.con (.int 1)))) (.cons (.asg (.name 4) (.call 25 (.cons (.call 27 (.cons (.var 2) (.cons (.var 2) .nil))) (.cons (.call 27 (.cons (.var 3) (.cons (.var 3) .nil))) .nil)))) (.cons (.ret (.cmp .le (.call 28 (.cons (.var 4) (.cons (.call 27 (.cons (.ix (.var 0) (.con (.int 1))) (.cons (.ix (.var 0) (.con (.int 1))) .nil))) .nil))) (.con (.int 0)))) .nil))⟩ -- _law_has _law_disc_here _law_point _law_p _law_q _law_far
def f36 : Fd := ⟨1, 1, .cons (.ret (.tup (.cons (.call 26 (.cons (.ix (.var 0) (.con (.int 0))) (.cons (.ix (.var 0) (.con (.int 1))) .nil))) (.cons (.call 25 (.cons (.ix (.var 0) (.con (.int 0))) (.cons (.ix (.var 0) (.con (.int 1))) .nil))) .nil)))) .nil⟩ -- _law_ends _law_disc_here
def f37 : Fd := ⟨2, 2, .cons (.ret (.tup (.cons (.call 27 (.cons (.tup (.cons (.con (.int 1)) (.cons (.con (.int 2)) .nil))) (.cons (.call 25 (.cons (.var 0) (.cons (.var 1) .nil))) .nil))) (.cons (.call 27 (.cons (.tup (.cons (.con (.int 1)) (.cons (.con (.int 2)) .nil))) (.cons (.call 29 (.cons (.call 26 (.cons (.var 0) (.cons (.var 1) .nil))) .nil)) .nil))) .nil)))) .nil⟩ -- _law_of_ends _law_x _law_y
def f38 : Fd := ⟨4, 2, .cons (.par2 2 3 (.call 36 (.cons (.var 0) .nil)) (.call 36 (.cons (.var 1) .nil))) (.cons (.ret (.and (.cmp .le (.call 28 (.cons (.ix (.var 3) (.con (.int 0))) (.cons (.ix (.var 2) (.con (.int 0))) .nil))) (.con (.int 0))) (.cmp .le (.call 28 (.cons (.ix (.var 2) (.con (.int 1))) (.cons (.ix (.var 3) (.con (.int 1))) .nil))) (.con (.int 0))))) .nil)⟩ -- _law_within _law_one _law_two _law_here _law_there
def f39 : Fd := ⟨4, 2, .cons (.par2 2 3 (.call 36 (.cons (.var 0) .nil)) (.call 36 (.cons (.var 1) .nil))) (.cons (.ret (.call 37 (.cons (.call 25 (.cons (.ix (.var 2) (.con (.int 0))) (.cons (.ix (.var 3) (.con (.int 0))) .nil))) (.cons (.call 25 (.cons (.ix (.var 2) (.con (.int 1))) (.cons (.ix (.var 3) (.con (.int 1))) .nil))) .nil)))) .nil)⟩ -- _law_summed _law_one _law_two _law_here _law_there
def f40 : Fd := ⟨3, 2, .cons (.asg (.name 2) (.call 36 (.cons (.var 0) .nil))) (.cons (.ret (.call 37 (.cons (.call 27 (.cons (.var 1) (.cons (.ix (.var 2) (.con (.int 0))) .nil))) (.cons (.call 27 (.cons (.var 1) (.cons (.ix (.var 2) (.con (.int 1))) .nil))) .nil)))) .nil)⟩ -- _law_multiple _law_disc_here _law_by _law_here
def f41 : Fd := ⟨5, 1, .cons (.sfor (.val (.var 0)) (.name 1) (.cons (.asg (.name 2) (.lst (.cons (.bi .list1 (.cons (.var 1) .nil)) (.cons (.bin .add (.var 1) (.tup (.cons (.tup (.cons (.con (.int 0)) (.cons (.con (.int 1)) .nil))) .nil))) (.cons (.slTo (.var 1) (.con (.int 1))) (.cons (.tup (.cons (.ix (.var 1) (.con (.int 0))) (.cons (.tup (.cons (.neg (.con (.int 1))) (.cons (.con (.int 3)) .nil))) .nil))) (.cons (.tup (.cons (.tup (.cons (.con (.int 2)) (.cons (.con (.int 2)) .nil))) (.cons (.ix (.var 1) (.con (.int 1))) .nil))) (.cons (.tup (.cons (.ix (.var 1) (.con (.int 0))) (.cons (.lst (.cons (.con (.int 0)) (.cons (.con (.int 1)) .nil))) .nil))) .nil)))))))) (.cons (.asg (.name 3) (.bin .add (.lst (.cons (.call 16 (.cons (.var 1) .nil)) (.cons (.callk 16 [0] (.cons (.var 1) .nil)) .nil))) (.lc (.val (.var 2)) (.name 4) (.con (.bl true)) (.call 16 (.cons (.var 4) .nil)) [4]))) (.cons (.sif (.cmp .ne (.bi .repr1 (.cons (.var 3) .nil)) (.bi .repr1 (.cons (.bin .add (.bin .mul (.lst (.cons (.con (.bl true)) .nil)) (.con (.int 2))) (.bin .mul (.lst (.cons (.con (.bl false)) .nil)) (.con (.int 6)))) .nil))) (.cons (.ret (.con (.bl false))) .nil) (.nil)) .nil)))) (.cons (.ret (.con (.bl true))) .nil)⟩ -- _law_known _law_discs _law_each _law_bent _law_told _law_thing
def f42 : Fd := ⟨17, 1, .cons (.par2 1 2 (.call 32 (.cons (.var 0) .nil)) (.call 32 (.cons (.var 0) .nil))) (.cons (.par2 3 4 (.call 33 (.cons (.var 0) (.cons (.var 1) .nil))) (.call 30 (.cons (.var 0) (.cons (.con (.int 3)) (.cons (.con (.int 3)) .nil))))) (.cons (.par2 5 6 (.call 34 (.cons (.var 0) (.cons (.var 1) .nil))) (.call 34 (.cons (.var 0) (.cons (.var 2) .nil)))) (.cons (.par2 7 8 (.call 18 (.cons (.var 1) (.cons (.var 2) .nil))) (.call 19 (.cons (.var 1) (.cons (.var 4) .nil)))) (.cons (.asg (.name 9) (.lst (.cons (.call 39 (.cons (.var 1) (.cons (.var 2) .nil))) (.cons (.call 40 (.cons (.var 1) (.cons (.var 4) .nil))) .nil)))) (.cons (.sif (.cmp .ne (.bi .repr1 (.cons (.lst (.cons (.var 7) (.cons (.var 8) .nil))) .nil)) (.bi .repr1 (.cons (.var 9) .nil))) (.cons (.ret (.con (.bl false))) .nil) (.nil)) (.cons (.sif (.cmp .ne (.bi .repr1 (.cons (.lst (.cons (.callk 18 [1, 0] (.cons (.var 1) (.cons (.var 2) .nil))) (.cons (.callk 19 [1, 0] (.cons (.var 4) (.cons (.var 1) .nil))) .nil))) .nil)) (.bi .repr1 (.cons (.var 9) .nil))) (.cons (.ret (.con (.bl false))) .nil) (.nil)) (.cons (.asg (.name 10) (.call 33 (.cons (.var 0) (.cons (.var 7) .nil)))) (.cons (.asg (.name 11) (.lst (.cons (.var 1) (.cons (.var 2) (.cons (.var 3) (.cons (.var 7) (.cons (.var 8) (.cons (.var 10) .nil)))))))) (.cons (.sif (.not (.call 41 (.cons (.var 11) .nil))) (.cons (.ret (.con (.bl false))) .nil) (.nil)) (.cons (.asg (.name 12) (.tup (.cons (.call 25 (.cons (.ix (.var 5) (.con (.int 0))) (.cons (.ix (.var 6) (.con (.int 0))) .nil))) (.cons (.call 25 (.cons (.ix (.var 5) (.con (.int 1))) (.cons (.ix (.var 6) (.con (.int 1))) .nil))) .nil)))) (.cons (.asg (.name 13) (.lst (.cons (.var 5) (.cons (.var 6) (.cons (.var 5) (.cons (.var 12) (.cons (.tup (.cons (.call 27 (.cons (.var 4) (.cons (.ix (.var 5) (.con (.int 0))) .nil))) (.cons (.call 27 (.cons (.var 4) (.cons (.ix (.var 5) (.con (.int 1))) .nil))) .nil))) (.cons (.var 5) .nil)))))))) (.cons (.sfor (.rng1 (.con (.int 6))) (.name 14) (.cons (.sfor (.val (.var 11)) (.name 15) (.cons (.asg (.name 16) (.call 17 (.cons (.ix (.var 11) (.var 14)) (.cons (.var 15) .nil)))) (.cons (.sif (.cmp .ne (.bi .repr1 (.cons (.lst (.cons (.var 16) (.cons (.callk 17 [1, 0] (.cons (.var 15) (.cons (.ix (.var 11) (.var 14)) .nil))) .nil))) .nil)) (.bi .repr1 (.cons (.bin .mul (.lst (.cons (.call 38 (.cons (.ix (.var 11) (.var 14)) (.cons (.var 15) .nil))) .nil)) (.con (.int 2))) .nil))) (.cons (.ret (.con (.bl false))) .nil) (.nil)) (.cons (.sif (.and (.var 16) (.and (.cmp .notIn (.bi .int1 (.cons (.var 14) .nil)) (.tup (.cons (.con (.int 2)) (.cons (.con (.int 5)) .nil)))) (.not (.call 35 (.cons (.var 15) (.cons (.ix (.var 13) (.var 14)) .nil)))))) (.cons (.ret (.con (.bl false))) .nil) (.nil)) .nil)))) .nil)) (.cons (.asg (.name 16) (.call 17 (.cons (.var 1) (.cons (.var 3) .nil)))) (.cons (.sif (.cmp .ne (.bi .repr1 (.cons (.call 17 (.cons (.var 7) (.cons (.call 18 (.cons (.var 3) (.cons (.var 2) .nil))) .nil))) .nil)) (.bi .repr1 (.cons (.var 16) .nil))) (.cons (.ret (.con (.bl false))) .nil) (.nil)) (.cons (.sif (.and (.cmp .ne (.ix (.var 4) (.con (.int 0))) (.con (.int 0))) (.cmp .ne (.bi .repr1 (.cons (.call 17 (.cons (.var 8) (.cons (.call 19 (.cons (.var 3) (.cons (.var 4) .nil))) .nil))) .nil)) (.bi .repr1 (.cons (.var 16) .nil)))) (.cons (.ret (.con (.bl false))) .nil) (.nil)) (.cons (.ret (.cmp .eq (.bi .repr1 (.cons (.call 19 (.cons (.var 7) (.cons (.var 4) .nil))) .nil)) (.bi .repr1 (.cons (.call 18 (.cons (.var 8) (.cons (.call 19 (.cons (.var 2) (.cons (.var 4) .nil))) .nil))) .nil)))) .nil))))))))))))))))⟩ -- _law_right _law_well_here _law_one _law_two _law_far _law_by _law_s _law_t _law_whole _law_much _law_due _law_third _law_discs _law_both _law_points _law_k _law_each _law_lies
def f43 : Fd := ⟨2, 1, .cons (.sfor (.rng1 (.bi .max2 (.cons (.con (.int 2)) (.cons (.bi .min2 (.cons (.bi .len (.cons (.var 0) .nil)) (.cons (.con (.int 3)) .nil))) .nil)))) (.name 1) (.cons (.sif (.not (.call 42 (.cons (.call 20 (.cons (.var 0) (.cons (.var 1) .nil))) .nil))) (.cons (.ret (.con (.bl false))) .nil) (.nil)) .nil)) (.cons (.ret (.con (.bl true))) .nil)⟩ -- law _law_script _law_turn
def fs : List Fd := [f0, f1, f2, f3, f4, f5, f6, f7, f8, f9, f10, f11, f12, f13, f14, f15, f16, f17, f18, f19, f20, f21, f22, f23, f24, f25, f26, f27, f28, f29, f30, f31, f32, f33, f34, f35, f36, f37, f38, f39, f40, f41, f42, f43]
def Γ : Info := ⟨[(("is_whole" : Str), [("value" : Str)]), (("are_wholes" : Str), [("value" : Str), ("many" : Str)]), (("divisor_of" : Str), [("numbers" : Str)]), (("lowest" : Str), [("numbers" : Str)]), (("is_ratio" : Str), [("value" : Str)]), (("is_from_nought" : Str), [("value" : Str)]), (("ratio" : Str), [("top" : Str), ("under" : Str)]), (("plus" : Str), [("one" : Str), ("two" : Str)]), (("minus" : Str), [("one" : Str), ("two" : Str)]), (("times" : Str), [("one" : Str), ("two" : Str)]), (("size_of" : Str), [("one" : Str)]), (("is_below" : Str), [("one" : Str), ("two" : Str)]), (("check_fraction" : Str), [("value" : Str)]), (("is_disc_by" : Str), [("value" : Str)]), (("lies_in_by" : Str), [("disc" : Str), ("other" : Str)]), (("check_disc" : Str), [("value" : Str)]), (("is_disc" : Str), [("value" : Str)]), (("lies_in_disc" : Str), [("disc" : Str), ("other" : Str)]), (("sum_disc" : Str), [("disc" : Str), ("other" : Str)]), (("scaled_disc" : Str), [("disc" : Str), ("fraction" : Str)]), (("_law_well" : Str), [("_law_script" : Str), ("_law_turn" : Str)]), (("_law_pull" : Str), [("_law_well_here" : Str), ("_law_many" : Str)]), (("_law_pick" : Str), [("_law_well_here" : Str), ("_law_some" : Str)]), (("_law_common" : Str), [("_law_n" : Str), ("_law_m" : Str)]), (("_law_ratio" : Str), [("_law_n" : Str), ("_law_m" : Str)]), (("_law_plus" : Str), [("_law_x" : Str), ("_law_y" : Str)]), (("_law_minus" : Str), [("_law_x" : Str), ("_law_y" : Str)]), (("_law_times" : Str), [("_law_x" : Str), ("_law_y" : Str)]), (("_law_beyond" : Str), [("_law_x" : Str), ("_law_y" : Str)]), (("_law_size" : Str), [("_law_x" : Str)]), (("_law_number" : Str), [("_law_well_here" : Str), ("_law_top" : Str), ("_law_most" : Str)]), (("_law_rim" : Str), [("_law_well_here" : Str)]), (("_law_disc" : Str), [("_law_well_here" : Str)]), (("_law_about" : Str), [("_law_well_here" : Str), ("_law_disc_here" : Str)]), (("_law_turn_of" : Str), [("_law_well_here" : Str), ("_law_disc_here" : Str)]), (("_law_has" : Str), [("_law_disc_here" : Str), ("_law_point" : Str)]), (("_law_ends" : Str), [("_law_disc_here" : Str)]), (("_law_of_ends" : Str), [("_law_x" : Str), ("_law_y" : Str)]), (("_law_within" : Str), [("_law_one" : Str), ("_law_two" : Str)]), (("_law_summed" : Str), [("_law_one" : Str), ("_law_two" : Str)]), (("_law_multiple" : Str), [("_law_disc_here" : Str), ("_law_by" : Str)]), (("_law_known" : Str), [("_law_discs" : Str)]), (("_law_right" : Str), [("_law_well_here" : Str)]), (("law" : Str), [("_law_script" : Str)])], [], [(16, 0, [("value" : Str)], [0]), (17, 0, [("other" : Str), ("disc" : Str)], [1, 0]), (19, 0, [("fraction" : Str), ("disc" : Str)], [1, 0]), (18, 0, [("other" : Str), ("disc" : Str)], [1, 0])], [("gcd" : Str)]⟩
def cs : List D := []
abbrev top (i : Nat) : Stmt := PySem.Challenge.pw_bringnear_k20_whole_discs_sums_multiples.main.body.getD i (.Pass ⟨0, 0, 0, 0⟩)
abbrev df (x : Str) (i : Nat) : He.DefD := ⟨(x, none), x, x, defArgs (top i), defBody (top i), defScope (top i), [], []⟩
def ds : List He.DefD := [df ("is_whole" : Str) 6, df ("are_wholes" : Str) 7, df ("divisor_of" : Str) 8, df ("lowest" : Str) 9, df ("is_ratio" : Str) 11, df ("is_from_nought" : Str) 12, df ("ratio" : Str) 13, df ("plus" : Str) 14, df ("minus" : Str) 15, df ("times" : Str) 16, df ("size_of" : Str) 17, df ("is_below" : Str) 18, df ("check_fraction" : Str) 20, df ("is_disc_by" : Str) 22, df ("lies_in_by" : Str) 23, df ("check_disc" : Str) 25, df ("is_disc" : Str) 26, df ("lies_in_disc" : Str) 27, df ("sum_disc" : Str) 28, df ("scaled_disc" : Str) 29, df ("_law_well" : Str) 31, df ("_law_pull" : Str) 32, df ("_law_pick" : Str) 33, df ("_law_common" : Str) 34, df ("_law_ratio" : Str) 35, df ("_law_plus" : Str) 36, df ("_law_minus" : Str) 37, df ("_law_times" : Str) 38, df ("_law_beyond" : Str) 39, df ("_law_size" : Str) 40, df ("_law_number" : Str) 41, df ("_law_rim" : Str) 42, df ("_law_disc" : Str) 43, df ("_law_about" : Str) 44, df ("_law_turn_of" : Str) 45, df ("_law_has" : Str) 46, df ("_law_ends" : Str) 47, df ("_law_of_ends" : Str) 48, df ("_law_within" : Str) 49, df ("_law_summed" : Str) 50, df ("_law_multiple" : Str) 51, df ("_law_known" : Str) 52, df ("_law_right" : Str) 53, df ("law" : Str) 54]
theorem n0 : FnScope [("value" : Str)] [("value" : Str)] (defScope (top 6)) := ⟨rfl, rfl, rfl, by decide +kernel, rfl, by decide +kernel, by decide +kernel⟩
theorem c0 : chkSs Γ f0.body ⟨[("value" : Str)], defScope (top 6), fun _ => true⟩ (defBody (top 6)) = true := by decide +kernel
theorem n1 : FnScope [("value" : Str), ("many" : Str), ("each" : Str)] [("value" : Str), ("many" : Str)] (defScope (top 7)) := ⟨rfl, rfl, rfl, by decide +kernel, rfl, by decide +kernel, by decide +kernel⟩
theorem c1 : chkSs Γ f1.body ⟨[("value" : Str), ("many" : Str), ("each" : Str)], defScope (top 7), fun _ => true⟩ (defBody (top 7)) = true := by decide +kernel
theorem n2 : FnScope [("numbers" : Str), ("found" : Str), ("number" : Str)] [("numbers" : Str)] (defScope (top 8)) := ⟨rfl, rfl, rfl, by decide +kernel, rfl, by decide +kernel, by decide +kernel⟩
theorem c2 : chkSs Γ f2.body ⟨[("numbers" : Str), ("found" : Str), ("number" : Str)], defScope (top 8), fun _ => true⟩ (defBody (top 8)) = true := by decide +kernel
theorem n3 : FnScope [("numbers" : Str), ("part" : Str), ("number" : Str)] [("numbers" : Str)] (defScope (top 9)) := ⟨rfl, rfl, rfl, by decide +kernel, rfl, by decide +kernel, by decide +kernel⟩
theorem c3 : chkSs Γ f3.body ⟨[("numbers" : Str), ("part" : Str), ("number" : Str)], defScope (top 9), fun _ => true⟩ (defBody (top 9)) = true := by decide +kernel
theorem n4 : FnScope [("value" : Str)] [("value" : Str)] (defScope (top 11)) := ⟨rfl, rfl, rfl, by decide +kernel, rfl, by decide +kernel, by decide +kernel⟩
theorem c4 : chkSs Γ f4.body ⟨[("value" : Str)], defScope (top 11), fun _ => true⟩ (defBody (top 11)) = true := by decide +kernel
theorem n5 : FnScope [("value" : Str)] [("value" : Str)] (defScope (top 12)) := ⟨rfl, rfl, rfl, by decide +kernel, rfl, by decide +kernel, by decide +kernel⟩
theorem c5 : chkSs Γ f5.body ⟨[("value" : Str)], defScope (top 12), fun _ => true⟩ (defBody (top 12)) = true := by decide +kernel
theorem n6 : FnScope [("top" : Str), ("under" : Str)] [("top" : Str), ("under" : Str)] (defScope (top 13)) := ⟨rfl, rfl, rfl, by decide +kernel, rfl, by decide +kernel, by decide +kernel⟩
theorem c6 : chkSs Γ f6.body ⟨[("top" : Str), ("under" : Str)], defScope (top 13), fun _ => true⟩ (defBody (top 13)) = true := by decide +kernel
theorem n7 : FnScope [("one" : Str), ("two" : Str)] [("one" : Str), ("two" : Str)] (defScope (top 14)) := ⟨rfl, rfl, rfl, by decide +kernel, rfl, by decide +kernel, by decide +kernel⟩
theorem c7 : chkSs Γ f7.body ⟨[("one" : Str), ("two" : Str)], defScope (top 14), fun _ => true⟩ (defBody (top 14)) = true := by decide +kernel
theorem n8 : FnScope [("one" : Str), ("two" : Str)] [("one" : Str), ("two" : Str)] (defScope (top 15)) := ⟨rfl, rfl, rfl, by decide +kernel, rfl, by decide +kernel, by decide +kernel⟩
theorem c8 : chkSs Γ f8.body ⟨[("one" : Str), ("two" : Str)], defScope (top 15), fun _ => true⟩ (defBody (top 15)) = true := by decide +kernel
theorem n9 : FnScope [("one" : Str), ("two" : Str)] [("one" : Str), ("two" : Str)] (defScope (top 16)) := ⟨rfl, rfl, rfl, by decide +kernel, rfl, by decide +kernel, by decide +kernel⟩
theorem c9 : chkSs Γ f9.body ⟨[("one" : Str), ("two" : Str)], defScope (top 16), fun _ => true⟩ (defBody (top 16)) = true := by decide +kernel
theorem n10 : FnScope [("one" : Str)] [("one" : Str)] (defScope (top 17)) := ⟨rfl, rfl, rfl, by decide +kernel, rfl, by decide +kernel, by decide +kernel⟩
theorem c10 : chkSs Γ f10.body ⟨[("one" : Str)], defScope (top 17), fun _ => true⟩ (defBody (top 17)) = true := by decide +kernel
theorem n11 : FnScope [("one" : Str), ("two" : Str)] [("one" : Str), ("two" : Str)] (defScope (top 18)) := ⟨rfl, rfl, rfl, by decide +kernel, rfl, by decide +kernel, by decide +kernel⟩
theorem c11 : chkSs Γ f11.body ⟨[("one" : Str), ("two" : Str)], defScope (top 18), fun _ => true⟩ (defBody (top 18)) = true := by decide +kernel
theorem n12 : FnScope [("value" : Str)] [("value" : Str)] (defScope (top 20)) := ⟨rfl, rfl, rfl, by decide +kernel, rfl, by decide +kernel, by decide +kernel⟩
theorem c12 : chkSs Γ f12.body ⟨[("value" : Str)], defScope (top 20), fun _ => true⟩ (defBody (top 20)) = true := by decide +kernel
theorem n13 : FnScope [("value" : Str)] [("value" : Str)] (defScope (top 22)) := ⟨rfl, rfl, rfl, by decide +kernel, rfl, by decide +kernel, by decide +kernel⟩
theorem c13 : chkSs Γ f13.body ⟨[("value" : Str)], defScope (top 22), fun _ => true⟩ (defBody (top 22)) = true := by decide +kernel
theorem n14 : FnScope [("disc" : Str), ("other" : Str)] [("disc" : Str), ("other" : Str)] (defScope (top 23)) := ⟨rfl, rfl, rfl, by decide +kernel, rfl, by decide +kernel, by decide +kernel⟩
theorem c14 : chkSs Γ f14.body ⟨[("disc" : Str), ("other" : Str)], defScope (top 23), fun _ => true⟩ (defBody (top 23)) = true := by decide +kernel
theorem n15 : FnScope [("value" : Str)] [("value" : Str)] (defScope (top 25)) := ⟨rfl, rfl, rfl, by decide +kernel, rfl, by decide +kernel, by decide +kernel⟩
theorem c15 : chkSs Γ f15.body ⟨[("value" : Str)], defScope (top 25), fun _ => true⟩ (defBody (top 25)) = true := by decide +kernel
theorem n16 : FnScope [("value" : Str)] [("value" : Str)] (defScope (top 26)) := ⟨rfl, rfl, rfl, by decide +kernel, rfl, by decide +kernel, by decide +kernel⟩
theorem c16 : chkSs Γ f16.body ⟨[("value" : Str)], defScope (top 26), fun _ => true⟩ (defBody (top 26)) = true := by decide +kernel
theorem n17 : FnScope [("disc" : Str), ("other" : Str)] [("disc" : Str), ("other" : Str)] (defScope (top 27)) := ⟨rfl, rfl, rfl, by decide +kernel, rfl, by decide +kernel, by decide +kernel⟩
theorem c17 : chkSs Γ f17.body ⟨[("disc" : Str), ("other" : Str)], defScope (top 27), fun _ => true⟩ (defBody (top 27)) = true := by decide +kernel
theorem n18 : FnScope [("disc" : Str), ("other" : Str)] [("disc" : Str), ("other" : Str)] (defScope (top 28)) := ⟨rfl, rfl, rfl, by decide +kernel, rfl, by decide +kernel, by decide +kernel⟩
theorem c18 : chkSs Γ f18.body ⟨[("disc" : Str), ("other" : Str)], defScope (top 28), fun _ => true⟩ (defBody (top 28)) = true := by decide +kernel
theorem n19 : FnScope [("disc" : Str), ("fraction" : Str)] [("disc" : Str), ("fraction" : Str)] (defScope (top 29)) := ⟨rfl, rfl, rfl, by decide +kernel, rfl, by decide +kernel, by decide +kernel⟩
theorem c19 : chkSs Γ f19.body ⟨[("disc" : Str), ("fraction" : Str)], defScope (top 29), fun _ => true⟩ (defBody (top 29)) = true := by decide +kernel
theorem n20 : FnScope [("_law_script" : Str), ("_law_turn" : Str), ("_law_cell" : Str), ("_law_seed" : Str), ("_law_each" : Str), ("_law_deep" : Str)] [("_law_script" : Str), ("_law_turn" : Str)] (defScope (top 31)) := ⟨rfl, rfl, rfl, by decide +kernel, rfl, by decide +kernel, by decide +kernel⟩
theorem c20 : chkSs Γ f20.body ⟨[("_law_script" : Str), ("_law_turn" : Str), ("_law_cell" : Str), ("_law_seed" : Str), ("_law_each" : Str), ("_law_deep" : Str)], defScope (top 31), fun _ => true⟩ (defBody (top 31)) = true := by decide +kernel
theorem n21 : FnScope [("_law_well_here" : Str), ("_law_many" : Str), ("_law_figure" : Str)] [("_law_well_here" : Str), ("_law_many" : Str)] (defScope (top 32)) := ⟨rfl, rfl, rfl, by decide +kernel, rfl, by decide +kernel, by decide +kernel⟩
theorem c21 : chkSs Γ f21.body ⟨[("_law_well_here" : Str), ("_law_many" : Str), ("_law_figure" : Str)], defScope (top 32), fun _ => true⟩ (defBody (top 32)) = true := by decide +kernel
theorem n22 : FnScope [("_law_well_here" : Str), ("_law_some" : Str)] [("_law_well_here" : Str), ("_law_some" : Str)] (defScope (top 33)) := ⟨rfl, rfl, rfl, by decide +kernel, rfl, by decide +kernel, by decide +kernel⟩
theorem c22 : chkSs Γ f22.body ⟨[("_law_well_here" : Str), ("_law_some" : Str)], defScope (top 33), fun _ => true⟩ (defBody (top 33)) = true := by decide +kernel
theorem n23 : FnScope [("_law_n" : Str), ("_law_m" : Str), ("_law_turn" : Str)] [("_law_n" : Str), ("_law_m" : Str)] (defScope (top 34)) := ⟨rfl, rfl, rfl, by decide +kernel, rfl, by decide +kernel, by decide +kernel⟩
theorem c23 : chkSs Γ f23.body ⟨[("_law_n" : Str), ("_law_m" : Str), ("_law_turn" : Str)], defScope (top 34), fun _ => true⟩ (defBody (top 34)) = true := by decide +kernel
theorem n24 : FnScope [("_law_n" : Str), ("_law_m" : Str), ("_law_by" : Str)] [("_law_n" : Str), ("_law_m" : Str)] (defScope (top 35)) := ⟨rfl, rfl, rfl, by decide +kernel, rfl, by decide +kernel, by decide +kernel⟩
theorem c24 : chkSs Γ f24.body ⟨[("_law_n" : Str), ("_law_m" : Str), ("_law_by" : Str)], defScope (top 35), fun _ => true⟩ (defBody (top 35)) = true := by decide +kernel
theorem n25 : FnScope [("_law_x" : Str), ("_law_y" : Str)] [("_law_x" : Str), ("_law_y" : Str)] (defScope (top 36)) := ⟨rfl, rfl, rfl, by decide +kernel, rfl, by decide +kernel, by decide +kernel⟩
theorem c25 : chkSs Γ f25.body ⟨[("_law_x" : Str), ("_law_y" : Str)], defScope (top 36), fun _ => true⟩ (defBody (top 36)) = true := by decide +kernel
theorem n26 : FnScope [("_law_x" : Str), ("_law_y" : Str)] [("_law_x" : Str), ("_law_y" : Str)] (defScope (top 37)) := ⟨rfl, rfl, rfl, by decide +kernel, rfl, by decide +kernel, by decide +kernel⟩
theorem c26 : chkSs Γ f26.body ⟨[("_law_x" : Str), ("_law_y" : Str)], defScope (top 37), fun _ => true⟩ (defBody (top 37)) = true := by decide +kernel
theorem n27 : FnScope [("_law_x" : Str), ("_law_y" : Str)] [("_law_x" : Str), ("_law_y" : Str)] (defScope (top 38)) := ⟨rfl, rfl, rfl, by decide +kernel, rfl, by decide +kernel, by decide +kernel⟩
theorem c27 : chkSs Γ f27.body ⟨[("_law_x" : Str), ("_law_y" : Str)], defScope (top 38), fun _ => true⟩ (defBody (top 38)) = true := by decide +kernel
theorem n28 : FnScope [("_law_x" : Str), ("_law_y" : Str)] [("_law_x" : Str), ("_law_y" : Str)] (defScope (top 39)) := ⟨rfl, rfl, rfl, by decide +kernel, rfl, by decide +kernel, by decide +kernel⟩
theorem c28 : chkSs Γ f28.body ⟨[("_law_x" : Str), ("_law_y" : Str)], defScope (top 39), fun _ => true⟩ (defBody (top 39)) = true := by decide +kernel
theorem n29 : FnScope [("_law_x" : Str)] [("_law_x" : Str)] (defScope (top 40)) := ⟨rfl, rfl, rfl, by decide +kernel, rfl, by decide +kernel, by decide +kernel⟩
theorem c29 : chkSs Γ f29.body ⟨[("_law_x" : Str)], defScope (top 40), fun _ => true⟩ (defBody (top 40)) = true := by decide +kernel
theorem n30 : FnScope [("_law_well_here" : Str), ("_law_top" : Str), ("_law_most" : Str), ("_law_n" : Str)] [("_law_well_here" : Str), ("_law_top" : Str), ("_law_most" : Str)] (defScope (top 41)) := ⟨rfl, rfl, rfl, by decide +kernel, rfl, by decide +kernel, by decide +kernel⟩
theorem c30 : chkSs Γ f30.body ⟨[("_law_well_here" : Str), ("_law_top" : Str), ("_law_most" : Str), ("_law_n" : Str)], defScope (top 41), fun _ => true⟩ (defBody (top 41)) = true := by decide +kernel
theorem n31 : FnScope [("_law_well_here" : Str), ("_law_a" : Str), ("_law_b" : Str), ("_law_one" : Str), ("_law_other" : Str)] [("_law_well_here" : Str)] (defScope (top 42)) := ⟨rfl, rfl, rfl, by decide +kernel, rfl, by decide +kernel, by decide +kernel⟩
theorem c31 : chkSs Γ f31.body ⟨[("_law_well_here" : Str), ("_law_a" : Str), ("_law_b" : Str), ("_law_one" : Str), ("_law_other" : Str)], defScope (top 42), fun _ => true⟩ (defBody (top 42)) = true := by decide +kernel
theorem n32 : FnScope [("_law_well_here" : Str), ("_law_centre" : Str), ("_law_radius" : Str)] [("_law_well_here" : Str)] (defScope (top 43)) := ⟨rfl, rfl, rfl, by decide +kernel, rfl, by decide +kernel, by decide +kernel⟩
theorem c32 : chkSs Γ f32.body ⟨[("_law_well_here" : Str), ("_law_centre" : Str), ("_law_radius" : Str)], defScope (top 43), fun _ => true⟩ (defBody (top 43)) = true := by decide +kernel
theorem n33 : FnScope [("_law_well_here" : Str), ("_law_disc_here" : Str), ("_law_move" : Str), ("_law_more" : Str), ("_law_radius" : Str)] [("_law_well_here" : Str), ("_law_disc_here" : Str)] (defScope (top 44)) := ⟨rfl, rfl, rfl, by decide +kernel, rfl, by decide +kernel, by decide +kernel⟩
theorem c33 : chkSs Γ f33.body ⟨[("_law_well_here" : Str), ("_law_disc_here" : Str), ("_law_move" : Str), ("_law_more" : Str), ("_law_radius" : Str)], defScope (top 44), fun _ => true⟩ (defBody (top 44)) = true := by decide +kernel
theorem n34 : FnScope [("_law_well_here" : Str), ("_law_disc_here" : Str), ("_law_x" : Str), ("_law_y" : Str), ("_law_by" : Str)] [("_law_well_here" : Str), ("_law_disc_here" : Str)] (defScope (top 45)) := ⟨rfl, rfl, rfl, by decide +kernel, rfl, by decide +kernel, by decide +kernel⟩
theorem c34 : chkSs Γ f34.body ⟨[("_law_well_here" : Str), ("_law_disc_here" : Str), ("_law_x" : Str), ("_law_y" : Str), ("_law_by" : Str)], defScope (top 45), fun _ => true⟩ (defBody (top 45)) = true := by decide +kernel
theorem n35 : FnScope [("_law_disc_here" : Str), ("_law_point" : Str), ("_law_p" : Str), ("_law_q" : Str), ("_law_far" : Str)] [("_law_disc_here" : Str), ("_law_point" : Str)] (defScope (top 46)) := ⟨rfl, rfl, rfl, by decide +kernel, rfl, by decide +kernel, by decide +kernel⟩
theorem c35 : chkSs Γ f35.body ⟨[("_law_disc_here" : Str), ("_law_point" : Str), ("_law_p" : Str), ("_law_q" : Str), ("_law_far" : Str)], defScope (top 46), fun _ => true⟩ (defBody (top 46)) = true := by decide +kernel
theorem n36 : FnScope [("_law_disc_here" : Str)] [("_law_disc_here" : Str)] (defScope (top 47)) := ⟨rfl, rfl, rfl, by decide +kernel, rfl, by decide +kernel, by decide +kernel⟩
theorem c36 : chkSs Γ f36.body ⟨[("_law_disc_here" : Str)], defScope (top 47), fun _ => true⟩ (defBody (top 47)) = true := by decide +kernel
theorem n37 : FnScope [("_law_x" : Str), ("_law_y" : Str)] [("_law_x" : Str), ("_law_y" : Str)] (defScope (top 48)) := ⟨rfl, rfl, rfl, by decide +kernel, rfl, by decide +kernel, by decide +kernel⟩
theorem c37 : chkSs Γ f37.body ⟨[("_law_x" : Str), ("_law_y" : Str)], defScope (top 48), fun _ => true⟩ (defBody (top 48)) = true := by decide +kernel
theorem n38 : FnScope [("_law_one" : Str), ("_law_two" : Str), ("_law_here" : Str), ("_law_there" : Str)] [("_law_one" : Str), ("_law_two" : Str)] (defScope (top 49)) := ⟨rfl, rfl, rfl, by decide +kernel, rfl, by decide +kernel, by decide +kernel⟩
theorem c38 : chkSs Γ f38.body ⟨[("_law_one" : Str), ("_law_two" : Str), ("_law_here" : Str), ("_law_there" : Str)], defScope (top 49), fun _ => true⟩ (defBody (top 49)) = true := by decide +kernel
theorem n39 : FnScope [("_law_one" : Str), ("_law_two" : Str), ("_law_here" : Str), ("_law_there" : Str)] [("_law_one" : Str), ("_law_two" : Str)] (defScope (top 50)) := ⟨rfl, rfl, rfl, by decide +kernel, rfl, by decide +kernel, by decide +kernel⟩
theorem c39 : chkSs Γ f39.body ⟨[("_law_one" : Str), ("_law_two" : Str), ("_law_here" : Str), ("_law_there" : Str)], defScope (top 50), fun _ => true⟩ (defBody (top 50)) = true := by decide +kernel
theorem n40 : FnScope [("_law_disc_here" : Str), ("_law_by" : Str), ("_law_here" : Str)] [("_law_disc_here" : Str), ("_law_by" : Str)] (defScope (top 51)) := ⟨rfl, rfl, rfl, by decide +kernel, rfl, by decide +kernel, by decide +kernel⟩
theorem c40 : chkSs Γ f40.body ⟨[("_law_disc_here" : Str), ("_law_by" : Str), ("_law_here" : Str)], defScope (top 51), fun _ => true⟩ (defBody (top 51)) = true := by decide +kernel
theorem n41 : FnScope [("_law_discs" : Str), ("_law_each" : Str), ("_law_bent" : Str), ("_law_told" : Str), ("_law_thing" : Str)] [("_law_discs" : Str)] (defScope (top 52)) := ⟨rfl, rfl, rfl, by decide +kernel, rfl, by decide +kernel, by decide +kernel⟩
theorem c41 : chkSs Γ f41.body ⟨[("_law_discs" : Str), ("_law_each" : Str), ("_law_bent" : Str), ("_law_told" : Str), ("_law_thing" : Str)], defScope (top 52), fun _ => true⟩ (defBody (top 52)) = true := by decide +kernel
theorem n42 : FnScope [("_law_well_here" : Str), ("_law_one" : Str), ("_law_two" : Str), ("_law_far" : Str), ("_law_by" : Str), ("_law_s" : Str), ("_law_t" : Str), ("_law_whole" : Str), ("_law_much" : Str), ("_law_due" : Str), ("_law_third" : Str), ("_law_discs" : Str), ("_law_both" : Str), ("_law_points" : Str), ("_law_k" : Str), ("_law_each" : Str), ("_law_lies" : Str)] [("_law_well_here" : Str)] (defScope (top 53)) := ⟨rfl, rfl, rfl, by decide +kernel, rfl, by decide +kernel, by decide +kernel⟩
theorem c42 : chkSs Γ f42.body ⟨[("_law_well_here" : Str), ("_law_one" : Str), ("_law_two" : Str), ("_law_far" : Str), ("_law_by" : Str), ("_law_s" : Str), ("_law_t" : Str), ("_law_whole" : Str), ("_law_much" : Str), ("_law_due" : Str), ("_law_third" : Str), ("_law_discs" : Str), ("_law_both" : Str), ("_law_points" : Str), ("_law_k" : Str), ("_law_each" : Str), ("_law_lies" : Str)], defScope (top 53), fun _ => true⟩ (defBody (top 53)) = true := by decide +kernel
theorem n43 : FnScope [("_law_script" : Str), ("_law_turn" : Str)] [("_law_script" : Str)] (defScope (top 54)) := ⟨rfl, rfl, rfl, by decide +kernel, rfl, by decide +kernel, by decide +kernel⟩
theorem c43 : chkSs Γ f43.body ⟨[("_law_script" : Str), ("_law_turn" : Str)], defScope (top 54), fun _ => true⟩ (defBody (top 54)) = true := by decide +kernel
theorem s0 : DefSpec Γ fs 0 ("is_whole" : Str) [("value" : Str)] (df ("is_whole" : Str) 6) := by
  refine ⟨rfl, rfl, rfl, fun _ _ _ _ _ _ us hl => match us, hl with | [_], _ => rfl, fun p hp e => ?_, [("value" : Str)], f0, n0, rfl, rfl, rfl, c0⟩
  rcases List.mem_cons.mp hp with rfl | hp
  · exact absurd e (by decide)
  rcases List.mem_cons.mp hp with rfl | hp
  · exact absurd e (by decide)
  rcases List.mem_cons.mp hp with rfl | hp
  · exact absurd e (by decide)
  rcases List.mem_cons.mp hp with rfl | hp
  · exact absurd e (by decide)
  exact absurd hp (by simp)
theorem s1 : DefSpec Γ fs 1 ("are_wholes" : Str) [("value" : Str), ("many" : Str)] (df ("are_wholes" : Str) 7) := by
  refine ⟨rfl, rfl, rfl, fun _ _ _ _ _ _ us hl => match us, hl with | [_, _], _ => rfl, fun p hp e => ?_, [("value" : Str), ("many" : Str), ("each" : Str)], f1, n1, rfl, rfl, rfl, c1⟩
  rcases List.mem_cons.mp hp with rfl | hp
  · exact absurd e (by decide)
  rcases List.mem_cons.mp hp with rfl | hp
  · exact absurd e (by decide)
  rcases List.mem_cons.mp hp with rfl | hp
  · exact absurd e (by decide)
  rcases List.mem_cons.mp hp with rfl | hp
  · exact absurd e (by decide)
  exact absurd hp (by simp)
theorem s2 : DefSpec Γ fs 2 ("divisor_of" : Str) [("numbers" : Str)] (df ("divisor_of" : Str) 8) := by
  refine ⟨rfl, rfl, rfl, fun _ _ _ _ _ _ us hl => match us, hl with | [_], _ => rfl, fun p hp e => ?_, [("numbers" : Str), ("found" : Str), ("number" : Str)], f2, n2, rfl, rfl, rfl, c2⟩
  rcases List.mem_cons.mp hp with rfl | hp
  · exact absurd e (by decide)
  rcases List.mem_cons.mp hp with rfl | hp
  · exact absurd e (by decide)
  rcases List.mem_cons.mp hp with rfl | hp
  · exact absurd e (by decide)
  rcases List.mem_cons.mp hp with rfl | hp
  · exact absurd e (by decide)
  exact absurd hp (by simp)
theorem s3 : DefSpec Γ fs 3 ("lowest" : Str) [("numbers" : Str)] (df ("lowest" : Str) 9) := by
  refine ⟨rfl, rfl, rfl, fun _ _ _ _ _ _ us hl => match us, hl with | [_], _ => rfl, fun p hp e => ?_, [("numbers" : Str), ("part" : Str), ("number" : Str)], f3, n3, rfl, rfl, rfl, c3⟩
  rcases List.mem_cons.mp hp with rfl | hp
  · exact absurd e (by decide)
  rcases List.mem_cons.mp hp with rfl | hp
  · exact absurd e (by decide)
  rcases List.mem_cons.mp hp with rfl | hp
  · exact absurd e (by decide)
  rcases List.mem_cons.mp hp with rfl | hp
  · exact absurd e (by decide)
  exact absurd hp (by simp)
theorem s4 : DefSpec Γ fs 4 ("is_ratio" : Str) [("value" : Str)] (df ("is_ratio" : Str) 11) := by
  refine ⟨rfl, rfl, rfl, fun _ _ _ _ _ _ us hl => match us, hl with | [_], _ => rfl, fun p hp e => ?_, [("value" : Str)], f4, n4, rfl, rfl, rfl, c4⟩
  rcases List.mem_cons.mp hp with rfl | hp
  · exact absurd e (by decide)
  rcases List.mem_cons.mp hp with rfl | hp
  · exact absurd e (by decide)
  rcases List.mem_cons.mp hp with rfl | hp
  · exact absurd e (by decide)
  rcases List.mem_cons.mp hp with rfl | hp
  · exact absurd e (by decide)
  exact absurd hp (by simp)
theorem s5 : DefSpec Γ fs 5 ("is_from_nought" : Str) [("value" : Str)] (df ("is_from_nought" : Str) 12) := by
  refine ⟨rfl, rfl, rfl, fun _ _ _ _ _ _ us hl => match us, hl with | [_], _ => rfl, fun p hp e => ?_, [("value" : Str)], f5, n5, rfl, rfl, rfl, c5⟩
  rcases List.mem_cons.mp hp with rfl | hp
  · exact absurd e (by decide)
  rcases List.mem_cons.mp hp with rfl | hp
  · exact absurd e (by decide)
  rcases List.mem_cons.mp hp with rfl | hp
  · exact absurd e (by decide)
  rcases List.mem_cons.mp hp with rfl | hp
  · exact absurd e (by decide)
  exact absurd hp (by simp)
theorem s6 : DefSpec Γ fs 6 ("ratio" : Str) [("top" : Str), ("under" : Str)] (df ("ratio" : Str) 13) := by
  refine ⟨rfl, rfl, rfl, fun _ _ _ _ _ _ us hl => match us, hl with | [_, _], _ => rfl, fun p hp e => ?_, [("top" : Str), ("under" : Str)], f6, n6, rfl, rfl, rfl, c6⟩
  rcases List.mem_cons.mp hp with rfl | hp
  · exact absurd e (by decide)
  rcases List.mem_cons.mp hp with rfl | hp
  · exact absurd e (by decide)
  rcases List.mem_cons.mp hp with rfl | hp
  · exact absurd e (by decide)
  rcases List.mem_cons.mp hp with rfl | hp
  · exact absurd e (by decide)
  exact absurd hp (by simp)
theorem s7 : DefSpec Γ fs 7 ("plus" : Str) [("one" : Str), ("two" : Str)] (df ("plus" : Str) 14) := by
  refine ⟨rfl, rfl, rfl, fun _ _ _ _ _ _ us hl => match us, hl with | [_, _], _ => rfl, fun p hp e => ?_, [("one" : Str), ("two" : Str)], f7, n7, rfl, rfl, rfl, c7⟩
  rcases List.mem_cons.mp hp with rfl | hp
  · exact absurd e (by decide)
  rcases List.mem_cons.mp hp with rfl | hp
  · exact absurd e (by decide)
  rcases List.mem_cons.mp hp with rfl | hp
  · exact absurd e (by decide)
  rcases List.mem_cons.mp hp with rfl | hp
  · exact absurd e (by decide)
  exact absurd hp (by simp)
theorem s8 : DefSpec Γ fs 8 ("minus" : Str) [("one" : Str), ("two" : Str)] (df ("minus" : Str) 15) := by
  refine ⟨rfl, rfl, rfl, fun _ _ _ _ _ _ us hl => match us, hl with | [_, _], _ => rfl, fun p hp e => ?_, [("one" : Str), ("two" : Str)], f8, n8, rfl, rfl, rfl, c8⟩
  rcases List.mem_cons.mp hp with rfl | hp
  · exact absurd e (by decide)
  rcases List.mem_cons.mp hp with rfl | hp
  · exact absurd e (by decide)
  rcases List.mem_cons.mp hp with rfl | hp
  · exact absurd e (by decide)
  rcases List.mem_cons.mp hp with rfl | hp
  · exact absurd e (by decide)
  exact absurd hp (by simp)
theorem s9 : DefSpec Γ fs 9 ("times" : Str) [("one" : Str), ("two" : Str)] (df ("times" : Str) 16) := by
  refine ⟨rfl, rfl, rfl, fun _ _ _ _ _ _ us hl => match us, hl with | [_, _], _ => rfl, fun p hp e => ?_, [("one" : Str), ("two" : Str)], f9, n9, rfl, rfl, rfl, c9⟩
  rcases List.mem_cons.mp hp with rfl | hp
  · exact absurd e (by decide)
  rcases List.mem_cons.mp hp with rfl | hp
  · exact absurd e (by decide)
  rcases List.mem_cons.mp hp with rfl | hp
  · exact absurd e (by decide)
  rcases List.mem_cons.mp hp with rfl | hp
  · exact absurd e (by decide)
  exact absurd hp (by simp)
theorem s10 : DefSpec Γ fs 10 ("size_of" : Str) [("one" : Str)] (df ("size_of" : Str) 17) := by
  refine ⟨rfl, rfl, rfl, fun _ _ _ _ _ _ us hl => match us, hl with | [_], _ => rfl, fun p hp e => ?_, [("one" : Str)], f10, n10, rfl, rfl, rfl, c10⟩
  rcases List.mem_cons.mp hp with rfl | hp
  · exact absurd e (by decide)
  rcases List.mem_cons.mp hp with rfl | hp
  · exact absurd e (by decide)
  rcases List.mem_cons.mp hp with rfl | hp
  · exact absurd e (by decide)
  rcases List.mem_cons.mp hp with rfl | hp
  · exact absurd e (by decide)
  exact absurd hp (by simp)
theorem s11 : DefSpec Γ fs 11 ("is_below" : Str) [("one" : Str), ("two" : Str)] (df ("is_below" : Str) 18) := by
  refine ⟨rfl, rfl, rfl, fun _ _ _ _ _ _ us hl => match us, hl with | [_, _], _ => rfl, fun p hp e => ?_, [("one" : Str), ("two" : Str)], f11, n11, rfl, rfl, rfl, c11⟩
  rcases List.mem_cons.mp hp with rfl | hp
  · exact absurd e (by decide)
  rcases List.mem_cons.mp hp with rfl | hp
  · exact absurd e (by decide)
  rcases List.mem_cons.mp hp with rfl | hp
  · exact absurd e (by decide)
  rcases List.mem_cons.mp hp with rfl | hp
  · exact absurd e (by decide)
  exact absurd hp (by simp)
theorem s12 : DefSpec Γ fs 12 ("check_fraction" : Str) [("value" : Str)] (df ("check_fraction" : Str) 20) := by
  refine ⟨rfl, rfl, rfl, fun _ _ _ _ _ _ us hl => match us, hl with | [_], _ => rfl, fun p hp e => ?_, [("value" : Str)], f12, n12, rfl, rfl, rfl, c12⟩
  rcases List.mem_cons.mp hp with rfl | hp
  · exact absurd e (by decide)
  rcases List.mem_cons.mp hp with rfl | hp
  · exact absurd e (by decide)
  rcases List.mem_cons.mp hp with rfl | hp
  · exact absurd e (by decide)
  rcases List.mem_cons.mp hp with rfl | hp
  · exact absurd e (by decide)
  exact absurd hp (by simp)
theorem s13 : DefSpec Γ fs 13 ("is_disc_by" : Str) [("value" : Str)] (df ("is_disc_by" : Str) 22) := by
  refine ⟨rfl, rfl, rfl, fun _ _ _ _ _ _ us hl => match us, hl with | [_], _ => rfl, fun p hp e => ?_, [("value" : Str)], f13, n13, rfl, rfl, rfl, c13⟩
  rcases List.mem_cons.mp hp with rfl | hp
  · exact absurd e (by decide)
  rcases List.mem_cons.mp hp with rfl | hp
  · exact absurd e (by decide)
  rcases List.mem_cons.mp hp with rfl | hp
  · exact absurd e (by decide)
  rcases List.mem_cons.mp hp with rfl | hp
  · exact absurd e (by decide)
  exact absurd hp (by simp)
theorem s14 : DefSpec Γ fs 14 ("lies_in_by" : Str) [("disc" : Str), ("other" : Str)] (df ("lies_in_by" : Str) 23) := by
  refine ⟨rfl, rfl, rfl, fun _ _ _ _ _ _ us hl => match us, hl with | [_, _], _ => rfl, fun p hp e => ?_, [("disc" : Str), ("other" : Str)], f14, n14, rfl, rfl, rfl, c14⟩
  rcases List.mem_cons.mp hp with rfl | hp
  · exact absurd e (by decide)
  rcases List.mem_cons.mp hp with rfl | hp
  · exact absurd e (by decide)
  rcases List.mem_cons.mp hp with rfl | hp
  · exact absurd e (by decide)
  rcases List.mem_cons.mp hp with rfl | hp
  · exact absurd e (by decide)
  exact absurd hp (by simp)
theorem s15 : DefSpec Γ fs 15 ("check_disc" : Str) [("value" : Str)] (df ("check_disc" : Str) 25) := by
  refine ⟨rfl, rfl, rfl, fun _ _ _ _ _ _ us hl => match us, hl with | [_], _ => rfl, fun p hp e => ?_, [("value" : Str)], f15, n15, rfl, rfl, rfl, c15⟩
  rcases List.mem_cons.mp hp with rfl | hp
  · exact absurd e (by decide)
  rcases List.mem_cons.mp hp with rfl | hp
  · exact absurd e (by decide)
  rcases List.mem_cons.mp hp with rfl | hp
  · exact absurd e (by decide)
  rcases List.mem_cons.mp hp with rfl | hp
  · exact absurd e (by decide)
  exact absurd hp (by simp)
theorem s16 : DefSpec Γ fs 16 ("is_disc" : Str) [("value" : Str)] (df ("is_disc" : Str) 26) := by
  refine ⟨rfl, rfl, rfl, fun _ _ _ _ _ _ us hl => match us, hl with | [_], _ => rfl, fun p hp e => ?_, [("value" : Str)], f16, n16, rfl, rfl, rfl, c16⟩
  rcases List.mem_cons.mp hp with rfl | hp
  · exact fun _ _ _ _ _ _ us ws h1 h2 => match us, ws, h1, h2 with | [], [_], _, _ => rfl
  rcases List.mem_cons.mp hp with rfl | hp
  · exact absurd e (by decide)
  rcases List.mem_cons.mp hp with rfl | hp
  · exact absurd e (by decide)
  rcases List.mem_cons.mp hp with rfl | hp
  · exact absurd e (by decide)
  exact absurd hp (by simp)
theorem s17 : DefSpec Γ fs 17 ("lies_in_disc" : Str) [("disc" : Str), ("other" : Str)] (df ("lies_in_disc" : Str) 27) := by
  refine ⟨rfl, rfl, rfl, fun _ _ _ _ _ _ us hl => match us, hl with | [_, _], _ => rfl, fun p hp e => ?_, [("disc" : Str), ("other" : Str)], f17, n17, rfl, rfl, rfl, c17⟩
  rcases List.mem_cons.mp hp with rfl | hp
  · exact absurd e (by decide)
  rcases List.mem_cons.mp hp with rfl | hp
  · exact fun _ _ _ _ _ _ us ws h1 h2 => match us, ws, h1, h2 with | [], [_, _], _, _ => rfl
  rcases List.mem_cons.mp hp with rfl | hp
  · exact absurd e (by decide)
  rcases List.mem_cons.mp hp with rfl | hp
  · exact absurd e (by decide)
  exact absurd hp (by simp)
theorem s18 : DefSpec Γ fs 18 ("sum_disc" : Str) [("disc" : Str), ("other" : Str)] (df ("sum_disc" : Str) 28) := by
  refine ⟨rfl, rfl, rfl, fun _ _ _ _ _ _ us hl => match us, hl with | [_, _], _ => rfl, fun p hp e => ?_, [("disc" : Str), ("other" : Str)], f18, n18, rfl, rfl, rfl, c18⟩
  rcases List.mem_cons.mp hp with rfl | hp
  · exact absurd e (by decide)
  rcases List.mem_cons.mp hp with rfl | hp
  · exact absurd e (by decide)
  rcases List.mem_cons.mp hp with rfl | hp
  · exact absurd e (by decide)
  rcases List.mem_cons.mp hp with rfl | hp
  · exact fun _ _ _ _ _ _ us ws h1 h2 => match us, ws, h1, h2 with | [], [_, _], _, _ => rfl
  exact absurd hp (by simp)
theorem s19 : DefSpec Γ fs 19 ("scaled_disc" : Str) [("disc" : Str), ("fraction" : Str)] (df ("scaled_disc" : Str) 29) := by
  refine ⟨rfl, rfl, rfl, fun _ _ _ _ _ _ us hl => match us, hl with | [_, _], _ => rfl, fun p hp e => ?_, [("disc" : Str), ("fraction" : Str)], f19, n19, rfl, rfl, rfl, c19⟩
  rcases List.mem_cons.mp hp with rfl | hp
  · exact absurd e (by decide)
  rcases List.mem_cons.mp hp with rfl | hp
  · exact absurd e (by decide)
  rcases List.mem_cons.mp hp with rfl | hp
  · exact fun _ _ _ _ _ _ us ws h1 h2 => match us, ws, h1, h2 with | [], [_, _], _, _ => rfl
  rcases List.mem_cons.mp hp with rfl | hp
  · exact absurd e (by decide)
  exact absurd hp (by simp)
theorem s20 : DefSpec Γ fs 20 ("_law_well" : Str) [("_law_script" : Str), ("_law_turn" : Str)] (df ("_law_well" : Str) 31) := by
  refine ⟨rfl, rfl, rfl, fun _ _ _ _ _ _ us hl => match us, hl with | [_, _], _ => rfl, fun p hp e => ?_, [("_law_script" : Str), ("_law_turn" : Str), ("_law_cell" : Str), ("_law_seed" : Str), ("_law_each" : Str), ("_law_deep" : Str)], f20, n20, rfl, rfl, rfl, c20⟩
  rcases List.mem_cons.mp hp with rfl | hp
  · exact absurd e (by decide)
  rcases List.mem_cons.mp hp with rfl | hp
  · exact absurd e (by decide)
  rcases List.mem_cons.mp hp with rfl | hp
  · exact absurd e (by decide)
  rcases List.mem_cons.mp hp with rfl | hp
  · exact absurd e (by decide)
  exact absurd hp (by simp)
theorem s21 : DefSpec Γ fs 21 ("_law_pull" : Str) [("_law_well_here" : Str), ("_law_many" : Str)] (df ("_law_pull" : Str) 32) := by
  refine ⟨rfl, rfl, rfl, fun _ _ _ _ _ _ us hl => match us, hl with | [_, _], _ => rfl, fun p hp e => ?_, [("_law_well_here" : Str), ("_law_many" : Str), ("_law_figure" : Str)], f21, n21, rfl, rfl, rfl, c21⟩
  rcases List.mem_cons.mp hp with rfl | hp
  · exact absurd e (by decide)
  rcases List.mem_cons.mp hp with rfl | hp
  · exact absurd e (by decide)
  rcases List.mem_cons.mp hp with rfl | hp
  · exact absurd e (by decide)
  rcases List.mem_cons.mp hp with rfl | hp
  · exact absurd e (by decide)
  exact absurd hp (by simp)
theorem s22 : DefSpec Γ fs 22 ("_law_pick" : Str) [("_law_well_here" : Str), ("_law_some" : Str)] (df ("_law_pick" : Str) 33) := by
  refine ⟨rfl, rfl, rfl, fun _ _ _ _ _ _ us hl => match us, hl with | [_, _], _ => rfl, fun p hp e => ?_, [("_law_well_here" : Str), ("_law_some" : Str)], f22, n22, rfl, rfl, rfl, c22⟩
  rcases List.mem_cons.mp hp with rfl | hp
  · exact absurd e (by decide)
  rcases List.mem_cons.mp hp with rfl | hp
  · exact absurd e (by decide)
  rcases List.mem_cons.mp hp with rfl | hp
  · exact absurd e (by decide)
  rcases List.mem_cons.mp hp with rfl | hp
  · exact absurd e (by decide)
  exact absurd hp (by simp)
theorem s23 : DefSpec Γ fs 23 ("_law_common" : Str) [("_law_n" : Str), ("_law_m" : Str)] (df ("_law_common" : Str) 34) := by
  refine ⟨rfl, rfl, rfl, fun _ _ _ _ _ _ us hl => match us, hl with | [_, _], _ => rfl, fun p hp e => ?_, [("_law_n" : Str), ("_law_m" : Str), ("_law_turn" : Str)], f23, n23, rfl, rfl, rfl, c23⟩
  rcases List.mem_cons.mp hp with rfl | hp
  · exact absurd e (by decide)
  rcases List.mem_cons.mp hp with rfl | hp
  · exact absurd e (by decide)
  rcases List.mem_cons.mp hp with rfl | hp
  · exact absurd e (by decide)
  rcases List.mem_cons.mp hp with rfl | hp
  · exact absurd e (by decide)
  exact absurd hp (by simp)
theorem s24 : DefSpec Γ fs 24 ("_law_ratio" : Str) [("_law_n" : Str), ("_law_m" : Str)] (df ("_law_ratio" : Str) 35) := by
  refine ⟨rfl, rfl, rfl, fun _ _ _ _ _ _ us hl => match us, hl with | [_, _], _ => rfl, fun p hp e => ?_, [("_law_n" : Str), ("_law_m" : Str), ("_law_by" : Str)], f24, n24, rfl, rfl, rfl, c24⟩
  rcases List.mem_cons.mp hp with rfl | hp
  · exact absurd e (by decide)
  rcases List.mem_cons.mp hp with rfl | hp
  · exact absurd e (by decide)
  rcases List.mem_cons.mp hp with rfl | hp
  · exact absurd e (by decide)
  rcases List.mem_cons.mp hp with rfl | hp
  · exact absurd e (by decide)
  exact absurd hp (by simp)
theorem s25 : DefSpec Γ fs 25 ("_law_plus" : Str) [("_law_x" : Str), ("_law_y" : Str)] (df ("_law_plus" : Str) 36) := by
  refine ⟨rfl, rfl, rfl, fun _ _ _ _ _ _ us hl => match us, hl with | [_, _], _ => rfl, fun p hp e => ?_, [("_law_x" : Str), ("_law_y" : Str)], f25, n25, rfl, rfl, rfl, c25⟩
  rcases List.mem_cons.mp hp with rfl | hp
  · exact absurd e (by decide)
  rcases List.mem_cons.mp hp with rfl | hp
  · exact absurd e (by decide)
  rcases List.mem_cons.mp hp with rfl | hp
  · exact absurd e (by decide)
  rcases List.mem_cons.mp hp with rfl | hp
  · exact absurd e (by decide)
  exact absurd hp (by simp)
theorem s26 : DefSpec Γ fs 26 ("_law_minus" : Str) [("_law_x" : Str), ("_law_y" : Str)] (df ("_law_minus" : Str) 37) := by
  refine ⟨rfl, rfl, rfl, fun _ _ _ _ _ _ us hl => match us, hl with | [_, _], _ => rfl, fun p hp e => ?_, [("_law_x" : Str), ("_law_y" : Str)], f26, n26, rfl, rfl, rfl, c26⟩
  rcases List.mem_cons.mp hp with rfl | hp
  · exact absurd e (by decide)
  rcases List.mem_cons.mp hp with rfl | hp
  · exact absurd e (by decide)
  rcases List.mem_cons.mp hp with rfl | hp
  · exact absurd e (by decide)
  rcases List.mem_cons.mp hp with rfl | hp
  · exact absurd e (by decide)
  exact absurd hp (by simp)
theorem s27 : DefSpec Γ fs 27 ("_law_times" : Str) [("_law_x" : Str), ("_law_y" : Str)] (df ("_law_times" : Str) 38) := by
  refine ⟨rfl, rfl, rfl, fun _ _ _ _ _ _ us hl => match us, hl with | [_, _], _ => rfl, fun p hp e => ?_, [("_law_x" : Str), ("_law_y" : Str)], f27, n27, rfl, rfl, rfl, c27⟩
  rcases List.mem_cons.mp hp with rfl | hp
  · exact absurd e (by decide)
  rcases List.mem_cons.mp hp with rfl | hp
  · exact absurd e (by decide)
  rcases List.mem_cons.mp hp with rfl | hp
  · exact absurd e (by decide)
  rcases List.mem_cons.mp hp with rfl | hp
  · exact absurd e (by decide)
  exact absurd hp (by simp)
theorem s28 : DefSpec Γ fs 28 ("_law_beyond" : Str) [("_law_x" : Str), ("_law_y" : Str)] (df ("_law_beyond" : Str) 39) := by
  refine ⟨rfl, rfl, rfl, fun _ _ _ _ _ _ us hl => match us, hl with | [_, _], _ => rfl, fun p hp e => ?_, [("_law_x" : Str), ("_law_y" : Str)], f28, n28, rfl, rfl, rfl, c28⟩
  rcases List.mem_cons.mp hp with rfl | hp
  · exact absurd e (by decide)
  rcases List.mem_cons.mp hp with rfl | hp
  · exact absurd e (by decide)
  rcases List.mem_cons.mp hp with rfl | hp
  · exact absurd e (by decide)
  rcases List.mem_cons.mp hp with rfl | hp
  · exact absurd e (by decide)
  exact absurd hp (by simp)
theorem s29 : DefSpec Γ fs 29 ("_law_size" : Str) [("_law_x" : Str)] (df ("_law_size" : Str) 40) := by
  refine ⟨rfl, rfl, rfl, fun _ _ _ _ _ _ us hl => match us, hl with | [_], _ => rfl, fun p hp e => ?_, [("_law_x" : Str)], f29, n29, rfl, rfl, rfl, c29⟩
  rcases List.mem_cons.mp hp with rfl | hp
  · exact absurd e (by decide)
  rcases List.mem_cons.mp hp with rfl | hp
  · exact absurd e (by decide)
  rcases List.mem_cons.mp hp with rfl | hp
  · exact absurd e (by decide)
  rcases List.mem_cons.mp hp with rfl | hp
  · exact absurd e (by decide)
  exact absurd hp (by simp)
theorem s30 : DefSpec Γ fs 30 ("_law_number" : Str) [("_law_well_here" : Str), ("_law_top" : Str), ("_law_most" : Str)] (df ("_law_number" : Str) 41) := by
  refine ⟨rfl, rfl, rfl, fun _ _ _ _ _ _ us hl => match us, hl with | [_, _, _], _ => rfl, fun p hp e => ?_, [("_law_well_here" : Str), ("_law_top" : Str), ("_law_most" : Str), ("_law_n" : Str)], f30, n30, rfl, rfl, rfl, c30⟩
  rcases List.mem_cons.mp hp with rfl | hp
  · exact absurd e (by decide)
  rcases List.mem_cons.mp hp with rfl | hp
  · exact absurd e (by decide)
  rcases List.mem_cons.mp hp with rfl | hp
  · exact absurd e (by decide)
  rcases List.mem_cons.mp hp with rfl | hp
  · exact absurd e (by decide)
  exact absurd hp (by simp)
theorem s31 : DefSpec Γ fs 31 ("_law_rim" : Str) [("_law_well_here" : Str)] (df ("_law_rim" : Str) 42) := by
  refine ⟨rfl, rfl, rfl, fun _ _ _ _ _ _ us hl => match us, hl with | [_], _ => rfl, fun p hp e => ?_, [("_law_well_here" : Str), ("_law_a" : Str), ("_law_b" : Str), ("_law_one" : Str), ("_law_other" : Str)], f31, n31, rfl, rfl, rfl, c31⟩
  rcases List.mem_cons.mp hp with rfl | hp
  · exact absurd e (by decide)
  rcases List.mem_cons.mp hp with rfl | hp
  · exact absurd e (by decide)
  rcases List.mem_cons.mp hp with rfl | hp
  · exact absurd e (by decide)
  rcases List.mem_cons.mp hp with rfl | hp
  · exact absurd e (by decide)
  exact absurd hp (by simp)
theorem s32 : DefSpec Γ fs 32 ("_law_disc" : Str) [("_law_well_here" : Str)] (df ("_law_disc" : Str) 43) := by
  refine ⟨rfl, rfl, rfl, fun _ _ _ _ _ _ us hl => match us, hl with | [_], _ => rfl, fun p hp e => ?_, [("_law_well_here" : Str), ("_law_centre" : Str), ("_law_radius" : Str)], f32, n32, rfl, rfl, rfl, c32⟩
  rcases List.mem_cons.mp hp with rfl | hp
  · exact absurd e (by decide)
  rcases List.mem_cons.mp hp with rfl | hp
  · exact absurd e (by decide)
  rcases List.mem_cons.mp hp with rfl | hp
  · exact absurd e (by decide)
  rcases List.mem_cons.mp hp with rfl | hp
  · exact absurd e (by decide)
  exact absurd hp (by simp)
theorem s33 : DefSpec Γ fs 33 ("_law_about" : Str) [("_law_well_here" : Str), ("_law_disc_here" : Str)] (df ("_law_about" : Str) 44) := by
  refine ⟨rfl, rfl, rfl, fun _ _ _ _ _ _ us hl => match us, hl with | [_, _], _ => rfl, fun p hp e => ?_, [("_law_well_here" : Str), ("_law_disc_here" : Str), ("_law_move" : Str), ("_law_more" : Str), ("_law_radius" : Str)], f33, n33, rfl, rfl, rfl, c33⟩
  rcases List.mem_cons.mp hp with rfl | hp
  · exact absurd e (by decide)
  rcases List.mem_cons.mp hp with rfl | hp
  · exact absurd e (by decide)
  rcases List.mem_cons.mp hp with rfl | hp
  · exact absurd e (by decide)
  rcases List.mem_cons.mp hp with rfl | hp
  · exact absurd e (by decide)
  exact absurd hp (by simp)
theorem s34 : DefSpec Γ fs 34 ("_law_turn_of" : Str) [("_law_well_here" : Str), ("_law_disc_here" : Str)] (df ("_law_turn_of" : Str) 45) := by
  refine ⟨rfl, rfl, rfl, fun _ _ _ _ _ _ us hl => match us, hl with | [_, _], _ => rfl, fun p hp e => ?_, [("_law_well_here" : Str), ("_law_disc_here" : Str), ("_law_x" : Str), ("_law_y" : Str), ("_law_by" : Str)], f34, n34, rfl, rfl, rfl, c34⟩
  rcases List.mem_cons.mp hp with rfl | hp
  · exact absurd e (by decide)
  rcases List.mem_cons.mp hp with rfl | hp
  · exact absurd e (by decide)
  rcases List.mem_cons.mp hp with rfl | hp
  · exact absurd e (by decide)
  rcases List.mem_cons.mp hp with rfl | hp
  · exact absurd e (by decide)
  exact absurd hp (by simp)
theorem s35 : DefSpec Γ fs 35 ("_law_has" : Str) [("_law_disc_here" : Str), ("_law_point" : Str)] (df ("_law_has" : Str) 46) := by
  refine ⟨rfl, rfl, rfl, fun _ _ _ _ _ _ us hl => match us, hl with | [_, _], _ => rfl, fun p hp e => ?_, [("_law_disc_here" : Str), ("_law_point" : Str), ("_law_p" : Str), ("_law_q" : Str), ("_law_far" : Str)], f35, n35, rfl, rfl, rfl, c35⟩
  rcases List.mem_cons.mp hp with rfl | hp
  · exact absurd e (by decide)
  rcases List.mem_cons.mp hp with rfl | hp
  · exact absurd e (by decide)
  rcases List.mem_cons.mp hp with rfl | hp
  · exact absurd e (by decide)
  rcases List.mem_cons.mp hp with rfl | hp
  · exact absurd e (by decide)
  exact absurd hp (by simp)
theorem s36 : DefSpec Γ fs 36 ("_law_ends" : Str) [("_law_disc_here" : Str)] (df ("_law_ends" : Str) 47) := by
  refine ⟨rfl, rfl, rfl, fun _ _ _ _ _ _ us hl => match us, hl with | [_], _ => rfl, fun p hp e => ?_, [("_law_disc_here" : Str)], f36, n36, rfl, rfl, rfl, c36⟩
  rcases List.mem_cons.mp hp with rfl | hp
  · exact absurd e (by decide)
  rcases List.mem_cons.mp hp with rfl | hp
  · exact absurd e (by decide)
  rcases List.mem_cons.mp hp with rfl | hp
  · exact absurd e (by decide)
  rcases List.mem_cons.mp hp with rfl | hp
  · exact absurd e (by decide)
  exact absurd hp (by simp)
theorem s37 : DefSpec Γ fs 37 ("_law_of_ends" : Str) [("_law_x" : Str), ("_law_y" : Str)] (df ("_law_of_ends" : Str) 48) := by
  refine ⟨rfl, rfl, rfl, fun _ _ _ _ _ _ us hl => match us, hl with | [_, _], _ => rfl, fun p hp e => ?_, [("_law_x" : Str), ("_law_y" : Str)], f37, n37, rfl, rfl, rfl, c37⟩
  rcases List.mem_cons.mp hp with rfl | hp
  · exact absurd e (by decide)
  rcases List.mem_cons.mp hp with rfl | hp
  · exact absurd e (by decide)
  rcases List.mem_cons.mp hp with rfl | hp
  · exact absurd e (by decide)
  rcases List.mem_cons.mp hp with rfl | hp
  · exact absurd e (by decide)
  exact absurd hp (by simp)
theorem s38 : DefSpec Γ fs 38 ("_law_within" : Str) [("_law_one" : Str), ("_law_two" : Str)] (df ("_law_within" : Str) 49) := by
  refine ⟨rfl, rfl, rfl, fun _ _ _ _ _ _ us hl => match us, hl with | [_, _], _ => rfl, fun p hp e => ?_, [("_law_one" : Str), ("_law_two" : Str), ("_law_here" : Str), ("_law_there" : Str)], f38, n38, rfl, rfl, rfl, c38⟩
  rcases List.mem_cons.mp hp with rfl | hp
  · exact absurd e (by decide)
  rcases List.mem_cons.mp hp with rfl | hp
  · exact absurd e (by decide)
  rcases List.mem_cons.mp hp with rfl | hp
  · exact absurd e (by decide)
  rcases List.mem_cons.mp hp with rfl | hp
  · exact absurd e (by decide)
  exact absurd hp (by simp)
theorem s39 : DefSpec Γ fs 39 ("_law_summed" : Str) [("_law_one" : Str), ("_law_two" : Str)] (df ("_law_summed" : Str) 50) := by
  refine ⟨rfl, rfl, rfl, fun _ _ _ _ _ _ us hl => match us, hl with | [_, _], _ => rfl, fun p hp e => ?_, [("_law_one" : Str), ("_law_two" : Str), ("_law_here" : Str), ("_law_there" : Str)], f39, n39, rfl, rfl, rfl, c39⟩
  rcases List.mem_cons.mp hp with rfl | hp
  · exact absurd e (by decide)
  rcases List.mem_cons.mp hp with rfl | hp
  · exact absurd e (by decide)
  rcases List.mem_cons.mp hp with rfl | hp
  · exact absurd e (by decide)
  rcases List.mem_cons.mp hp with rfl | hp
  · exact absurd e (by decide)
  exact absurd hp (by simp)
theorem s40 : DefSpec Γ fs 40 ("_law_multiple" : Str) [("_law_disc_here" : Str), ("_law_by" : Str)] (df ("_law_multiple" : Str) 51) := by
  refine ⟨rfl, rfl, rfl, fun _ _ _ _ _ _ us hl => match us, hl with | [_, _], _ => rfl, fun p hp e => ?_, [("_law_disc_here" : Str), ("_law_by" : Str), ("_law_here" : Str)], f40, n40, rfl, rfl, rfl, c40⟩
  rcases List.mem_cons.mp hp with rfl | hp
  · exact absurd e (by decide)
  rcases List.mem_cons.mp hp with rfl | hp
  · exact absurd e (by decide)
  rcases List.mem_cons.mp hp with rfl | hp
  · exact absurd e (by decide)
  rcases List.mem_cons.mp hp with rfl | hp
  · exact absurd e (by decide)
  exact absurd hp (by simp)
theorem s41 : DefSpec Γ fs 41 ("_law_known" : Str) [("_law_discs" : Str)] (df ("_law_known" : Str) 52) := by
  refine ⟨rfl, rfl, rfl, fun _ _ _ _ _ _ us hl => match us, hl with | [_], _ => rfl, fun p hp e => ?_, [("_law_discs" : Str), ("_law_each" : Str), ("_law_bent" : Str), ("_law_told" : Str), ("_law_thing" : Str)], f41, n41, rfl, rfl, rfl, c41⟩
  rcases List.mem_cons.mp hp with rfl | hp
  · exact absurd e (by decide)
  rcases List.mem_cons.mp hp with rfl | hp
  · exact absurd e (by decide)
  rcases List.mem_cons.mp hp with rfl | hp
  · exact absurd e (by decide)
  rcases List.mem_cons.mp hp with rfl | hp
  · exact absurd e (by decide)
  exact absurd hp (by simp)
theorem s42 : DefSpec Γ fs 42 ("_law_right" : Str) [("_law_well_here" : Str)] (df ("_law_right" : Str) 53) := by
  refine ⟨rfl, rfl, rfl, fun _ _ _ _ _ _ us hl => match us, hl with | [_], _ => rfl, fun p hp e => ?_, [("_law_well_here" : Str), ("_law_one" : Str), ("_law_two" : Str), ("_law_far" : Str), ("_law_by" : Str), ("_law_s" : Str), ("_law_t" : Str), ("_law_whole" : Str), ("_law_much" : Str), ("_law_due" : Str), ("_law_third" : Str), ("_law_discs" : Str), ("_law_both" : Str), ("_law_points" : Str), ("_law_k" : Str), ("_law_each" : Str), ("_law_lies" : Str)], f42, n42, rfl, rfl, rfl, c42⟩
  rcases List.mem_cons.mp hp with rfl | hp
  · exact absurd e (by decide)
  rcases List.mem_cons.mp hp with rfl | hp
  · exact absurd e (by decide)
  rcases List.mem_cons.mp hp with rfl | hp
  · exact absurd e (by decide)
  rcases List.mem_cons.mp hp with rfl | hp
  · exact absurd e (by decide)
  exact absurd hp (by simp)
theorem s43 : DefSpec Γ fs 43 ("law" : Str) [("_law_script" : Str)] (df ("law" : Str) 54) := by
  refine ⟨rfl, rfl, rfl, fun _ _ _ _ _ _ us hl => match us, hl with | [_], _ => rfl, fun p hp e => ?_, [("_law_script" : Str), ("_law_turn" : Str)], f43, n43, rfl, rfl, rfl, c43⟩
  rcases List.mem_cons.mp hp with rfl | hp
  · exact absurd e (by decide)
  rcases List.mem_cons.mp hp with rfl | hp
  · exact absurd e (by decide)
  rcases List.mem_cons.mp hp with rfl | hp
  · exact absurd e (by decide)
  rcases List.mem_cons.mp hp with rfl | hp
  · exact absurd e (by decide)
  exact absurd hp (by simp)
theorem specs : ∀ (i : Nat) (nm : Str) (ps : List Str), Γ.fns[i]? = some (nm, ps) → ∃ d, ds[i]? = some d ∧ DefSpec Γ fs i nm ps d
  | 0, _, _, e => by cases (show some (("is_whole" : Str), ([("value" : Str)] : List Str)) = some _ from e); exact ⟨_, rfl, s0⟩
  | 1, _, _, e => by cases (show some (("are_wholes" : Str), ([("value" : Str), ("many" : Str)] : List Str)) = some _ from e); exact ⟨_, rfl, s1⟩
  | 2, _, _, e => by cases (show some (("divisor_of" : Str), ([("numbers" : Str)] : List Str)) = some _ from e); exact ⟨_, rfl, s2⟩
  | 3, _, _, e => by cases (show some (("lowest" : Str), ([("numbers" : Str)] : List Str)) = some _ from e); exact ⟨_, rfl, s3⟩
  | 4, _, _, e => by cases (show some (("is_ratio" : Str), ([("value" : Str)] : List Str)) = some _ from e); exact ⟨_, rfl, s4⟩
  | 5, _, _, e => by cases (show some (("is_from_nought" : Str), ([("value" : Str)] : List Str)) = some _ from e); exact ⟨_, rfl, s5⟩
  | 6, _, _, e => by cases (show some (("ratio" : Str), ([("top" : Str), ("under" : Str)] : List Str)) = some _ from e); exact ⟨_, rfl, s6⟩
  | 7, _, _, e => by cases (show some (("plus" : Str), ([("one" : Str), ("two" : Str)] : List Str)) = some _ from e); exact ⟨_, rfl, s7⟩
  | 8, _, _, e => by cases (show some (("minus" : Str), ([("one" : Str), ("two" : Str)] : List Str)) = some _ from e); exact ⟨_, rfl, s8⟩
  | 9, _, _, e => by cases (show some (("times" : Str), ([("one" : Str), ("two" : Str)] : List Str)) = some _ from e); exact ⟨_, rfl, s9⟩
  | 10, _, _, e => by cases (show some (("size_of" : Str), ([("one" : Str)] : List Str)) = some _ from e); exact ⟨_, rfl, s10⟩
  | 11, _, _, e => by cases (show some (("is_below" : Str), ([("one" : Str), ("two" : Str)] : List Str)) = some _ from e); exact ⟨_, rfl, s11⟩
  | 12, _, _, e => by cases (show some (("check_fraction" : Str), ([("value" : Str)] : List Str)) = some _ from e); exact ⟨_, rfl, s12⟩
  | 13, _, _, e => by cases (show some (("is_disc_by" : Str), ([("value" : Str)] : List Str)) = some _ from e); exact ⟨_, rfl, s13⟩
  | 14, _, _, e => by cases (show some (("lies_in_by" : Str), ([("disc" : Str), ("other" : Str)] : List Str)) = some _ from e); exact ⟨_, rfl, s14⟩
  | 15, _, _, e => by cases (show some (("check_disc" : Str), ([("value" : Str)] : List Str)) = some _ from e); exact ⟨_, rfl, s15⟩
  | 16, _, _, e => by cases (show some (("is_disc" : Str), ([("value" : Str)] : List Str)) = some _ from e); exact ⟨_, rfl, s16⟩
  | 17, _, _, e => by cases (show some (("lies_in_disc" : Str), ([("disc" : Str), ("other" : Str)] : List Str)) = some _ from e); exact ⟨_, rfl, s17⟩
  | 18, _, _, e => by cases (show some (("sum_disc" : Str), ([("disc" : Str), ("other" : Str)] : List Str)) = some _ from e); exact ⟨_, rfl, s18⟩
  | 19, _, _, e => by cases (show some (("scaled_disc" : Str), ([("disc" : Str), ("fraction" : Str)] : List Str)) = some _ from e); exact ⟨_, rfl, s19⟩
  | 20, _, _, e => by cases (show some (("_law_well" : Str), ([("_law_script" : Str), ("_law_turn" : Str)] : List Str)) = some _ from e); exact ⟨_, rfl, s20⟩
  | 21, _, _, e => by cases (show some (("_law_pull" : Str), ([("_law_well_here" : Str), ("_law_many" : Str)] : List Str)) = some _ from e); exact ⟨_, rfl, s21⟩
  | 22, _, _, e => by cases (show some (("_law_pick" : Str), ([("_law_well_here" : Str), ("_law_some" : Str)] : List Str)) = some _ from e); exact ⟨_, rfl, s22⟩
  | 23, _, _, e => by cases (show some (("_law_common" : Str), ([("_law_n" : Str), ("_law_m" : Str)] : List Str)) = some _ from e); exact ⟨_, rfl, s23⟩
  | 24, _, _, e => by cases (show some (("_law_ratio" : Str), ([("_law_n" : Str), ("_law_m" : Str)] : List Str)) = some _ from e); exact ⟨_, rfl, s24⟩
  | 25, _, _, e => by cases (show some (("_law_plus" : Str), ([("_law_x" : Str), ("_law_y" : Str)] : List Str)) = some _ from e); exact ⟨_, rfl, s25⟩
  | 26, _, _, e => by cases (show some (("_law_minus" : Str), ([("_law_x" : Str), ("_law_y" : Str)] : List Str)) = some _ from e); exact ⟨_, rfl, s26⟩
  | 27, _, _, e => by cases (show some (("_law_times" : Str), ([("_law_x" : Str), ("_law_y" : Str)] : List Str)) = some _ from e); exact ⟨_, rfl, s27⟩
  | 28, _, _, e => by cases (show some (("_law_beyond" : Str), ([("_law_x" : Str), ("_law_y" : Str)] : List Str)) = some _ from e); exact ⟨_, rfl, s28⟩
  | 29, _, _, e => by cases (show some (("_law_size" : Str), ([("_law_x" : Str)] : List Str)) = some _ from e); exact ⟨_, rfl, s29⟩
  | 30, _, _, e => by cases (show some (("_law_number" : Str), ([("_law_well_here" : Str), ("_law_top" : Str), ("_law_most" : Str)] : List Str)) = some _ from e); exact ⟨_, rfl, s30⟩
  | 31, _, _, e => by cases (show some (("_law_rim" : Str), ([("_law_well_here" : Str)] : List Str)) = some _ from e); exact ⟨_, rfl, s31⟩
  | 32, _, _, e => by cases (show some (("_law_disc" : Str), ([("_law_well_here" : Str)] : List Str)) = some _ from e); exact ⟨_, rfl, s32⟩
  | 33, _, _, e => by cases (show some (("_law_about" : Str), ([("_law_well_here" : Str), ("_law_disc_here" : Str)] : List Str)) = some _ from e); exact ⟨_, rfl, s33⟩
  | 34, _, _, e => by cases (show some (("_law_turn_of" : Str), ([("_law_well_here" : Str), ("_law_disc_here" : Str)] : List Str)) = some _ from e); exact ⟨_, rfl, s34⟩
  | 35, _, _, e => by cases (show some (("_law_has" : Str), ([("_law_disc_here" : Str), ("_law_point" : Str)] : List Str)) = some _ from e); exact ⟨_, rfl, s35⟩
  | 36, _, _, e => by cases (show some (("_law_ends" : Str), ([("_law_disc_here" : Str)] : List Str)) = some _ from e); exact ⟨_, rfl, s36⟩
  | 37, _, _, e => by cases (show some (("_law_of_ends" : Str), ([("_law_x" : Str), ("_law_y" : Str)] : List Str)) = some _ from e); exact ⟨_, rfl, s37⟩
  | 38, _, _, e => by cases (show some (("_law_within" : Str), ([("_law_one" : Str), ("_law_two" : Str)] : List Str)) = some _ from e); exact ⟨_, rfl, s38⟩
  | 39, _, _, e => by cases (show some (("_law_summed" : Str), ([("_law_one" : Str), ("_law_two" : Str)] : List Str)) = some _ from e); exact ⟨_, rfl, s39⟩
  | 40, _, _, e => by cases (show some (("_law_multiple" : Str), ([("_law_disc_here" : Str), ("_law_by" : Str)] : List Str)) = some _ from e); exact ⟨_, rfl, s40⟩
  | 41, _, _, e => by cases (show some (("_law_known" : Str), ([("_law_discs" : Str)] : List Str)) = some _ from e); exact ⟨_, rfl, s41⟩
  | 42, _, _, e => by cases (show some (("_law_right" : Str), ([("_law_well_here" : Str)] : List Str)) = some _ from e); exact ⟨_, rfl, s42⟩
  | 43, _, _, e => by cases (show some (("law" : Str), ([("_law_script" : Str)] : List Str)) = some _ from e); exact ⟨_, rfl, s43⟩
  | _ + 44, _, _, e => nomatch (show (none : Option (Str × List Str)) = some _ from e)
def l0 : List PySem.Str := [("NearError" : Str), ("InvalidFraction" : Str), ("InvalidDisc" : Str), ("is_whole" : Str), ("are_wholes" : Str), ("divisor_of" : Str), ("lowest" : Str), ("is_ratio" : Str), ("is_from_nought" : Str), ("ratio" : Str), ("plus" : Str), ("minus" : Str), ("times" : Str), ("size_of" : Str), ("is_below" : Str), ("check_fraction" : Str), ("is_disc_by" : Str), ("lies_in_by" : Str), ("check_disc" : Str), ("is_disc" : Str), ("lies_in_disc" : Str), ("sum_disc" : Str), ("scaled_disc" : Str), ("_law_well" : Str), ("_law_pull" : Str), ("_law_pick" : Str), ("_law_common" : Str), ("_law_ratio" : Str), ("_law_plus" : Str), ("_law_minus" : Str)]
def l1 : List PySem.Str := [("_law_times" : Str), ("_law_beyond" : Str), ("_law_size" : Str), ("_law_number" : Str), ("_law_rim" : Str), ("_law_disc" : Str), ("_law_about" : Str), ("_law_turn_of" : Str), ("_law_has" : Str), ("_law_ends" : Str), ("_law_of_ends" : Str), ("_law_within" : Str), ("_law_summed" : Str), ("_law_multiple" : Str), ("_law_known" : Str), ("_law_right" : Str)]
def loose : List PySem.Str := l0 ++ l1
abbrev R : PySem.W.OpenRow := PySem.W.OpenLaw.row PySem.Challenge.rw_bringnear_k20_whole_discs_sums_multiples
abbrev hk : PySem.W.Hook := hookB 4 (ckB Γ cs) ds
def ob (s : PySem.W.SharedT) : AlB := obB 4 (ckB Γ cs) ds (HandSHeadRun.getT s)
theorem ob_eq (s : PySem.W.SharedT) : ob s = hk.obs s.abs := obB_eq s
theorem run (w : World) : HandSHeadRun.RunEqI R (PySem.W.view R.prog [0, 54]) hk ob 20000 loose w := by
  show _ = _
  kernel_rfl
end K20

set_option Elab.async false
set_option linter.all false
set_option maxRecDepth 100000
set_option maxHeartbeats 0
namespace K20
open PySem L2 Bn
def dsc (c r : Rat) : D := .tup [fr c, fr r]
def isDsc : D → Bool
  | .tup [a, b] => isRat a && isFrom b
  | _ => false
def inn (c r c' r' : Rat) : Bool := !decide (r' < absR (c - c') + r)
theorem isDsc_ok {c r : Rat} (h : 0 ≤ r) : isDsc (dsc c r) = true := by
  simp only [isDsc, dsc, isRat_fr, isFrom_fr h, Bool.and_self]
theorem dsc_plain {c r : Rat} : (dsc c r).plain = true := rfl
theorem dsc_nb {c r : Rat} : (dsc c r).nb = true := rfl
theorem dsc_it {c r : Rat} : items (dsc c r) = some [fr c, fr r] := rfl
theorem dsc_view {σ : Sl} {W : Ce} {c r : Rat} : view σ W (dsc c r) = dsc c r := rfl
theorem h0 : STest fs cs 1 0 isWh := whole_ok rfl
theorem h1 : SWholes fs cs 2 1 := wholes_ok h0 rfl
theorem h2 : SDiv fs cs 1 2 := divisor_ok rfl
theorem h3 : SLow2 fs cs 2 3 := low_ok h2 rfl
theorem h4 : STest fs cs 3 4 isRat := isratio_ok h1 (fun m => h2 (m + 1)) rfl
theorem h5 : STest fs cs 4 5 isFrom := isfrom_ok h4 rfl
theorem h6 : SRatio fs cs 3 6 := ratio_ok h3 rfl
theorem h7 : SR2 fs cs 4 7 (· + ·) := plus_ok h6 rfl
theorem h8 : SR2 fs cs 4 8 (· - ·) := minus_ok h6 rfl
theorem h9 : SR2 fs cs 4 9 (· * ·) := times_ok h6 rfl
theorem h10 : SSize fs cs 1 10 := size_ok rfl
theorem h11 : SBelow fs cs 1 11 := below_ok rfl
theorem h12 (m : Nat) (q : Rat) (W : Ce) (Q : D → Ce → Prop) (hQ : Q .non W) : wpC fs cs (m + 4) 12 [fr q] W Q := by
  refine wpC_step (f := f12) rfl rfl ?_
  simp only [f12, ↓w_for, ↓w_lc, b_add, b_addT, b_addL, b_sub, b_mul, b_mulL, b_mulT, b_fdiv, b_mod, b_pow, c_lt, c_le, c_gt, c_ge, c_eq, c_ne, c_eqS, c_neS, c_eq_tup, c_ne_tup, c_eq_lst, c_ne_lst, c_eq_bl, c_ne_bl, c_inT, c_ninT, i_int, i_intB, i_abs, i_dm, i_len_tup, i_len_lst, i_len_scr, i_max, i_min, i_gcd, i_isqrt, i_tuple1_tup, i_tuple1_lst, i_list1_tup, i_list1_lst, i_all, i_any, i_sum, i_repr_tup, i_repr_lst, i_repr_bl, i_repr_int, y_bl, y_int, y_str, y_tup, y_lst, y_non, it_tup, it_lst, it_scr, t_bl, t_int, t_tup, t_lst, t_non, w_cons, w_nil, wpS, wpE, wpEs, wpG, wpGs, wpI, wpT, startD, nb_fr, view_fr, it_fr, nb_int, nb_tup, nb_bl, nb_str, nb_lst, nb_scr, nb_non, nb_cell, nbs, g_name, g_tup, gsets, wipeD, noOw, itOk, view_int, view_tup, view_bl, view_str, view_lst, view_scr, view_non, at0, at1, at2, at3, ix0, ix1, ix2, tgN, List.map_cons, List.map_nil, List.append_nil, List.nil_append, List.cons_append, List.length_cons, List.length_nil, List.replicate_zero, List.replicate_succ, List.getElem?_cons_zero, List.getElem?_cons_succ, List.set_cons_zero, List.set_cons_succ, List.all_cons, List.all_nil, Bool.and_true, Bool.true_and, Nat.sub_self, Nat.add_sub_cancel_left, zeroNat, if_true, reduceCtorEq, true_and, and_true, ite_true, ite_false, Bool.false_eq_true, if_false, Nat.reduceAdd, Nat.reduceSub, Nat.reduceLT, Nat.zero_add, List.all, Bool.and_self, Int.reduceToNat, List.reduceReplicate, List.flatten_cons, List.flatten_nil, eq_self, permD, List.getD_cons_zero, List.getD_cons_succ, sIx21, List.take_succ_cons, List.take_zero, Nat.reduceLeDiff, and_self, decide_true, decide_false, Bool.not_true, Bool.not_false]
  refine h4 m (fr q) W _ rfl ?_
  simp only [isRat_fr, ↓w_for, ↓w_lc, b_add, b_addT, b_addL, b_sub, b_mul, b_mulL, b_mulT, b_fdiv, b_mod, b_pow, c_lt, c_le, c_gt, c_ge, c_eq, c_ne, c_eqS, c_neS, c_eq_tup, c_ne_tup, c_eq_lst, c_ne_lst, c_eq_bl, c_ne_bl, c_inT, c_ninT, i_int, i_intB, i_abs, i_dm, i_len_tup, i_len_lst, i_len_scr, i_max, i_min, i_gcd, i_isqrt, i_tuple1_tup, i_tuple1_lst, i_list1_tup, i_list1_lst, i_all, i_any, i_sum, i_repr_tup, i_repr_lst, i_repr_bl, i_repr_int, y_bl, y_int, y_str, y_tup, y_lst, y_non, it_tup, it_lst, it_scr, t_bl, t_int, t_tup, t_lst, t_non, w_cons, w_nil, wpS, wpE, wpEs, wpG, wpGs, wpI, wpT, startD, nb_fr, view_fr, it_fr, nb_int, nb_tup, nb_bl, nb_str, nb_lst, nb_scr, nb_non, nb_cell, nbs, g_name, g_tup, gsets, wipeD, noOw, itOk, view_int, view_tup, view_bl, view_str, view_lst, view_scr, view_non, at0, at1, at2, at3, ix0, ix1, ix2, tgN, List.map_cons, List.map_nil, List.append_nil, List.nil_append, List.cons_append, List.length_cons, List.length_nil, List.replicate_zero, List.replicate_succ, List.getElem?_cons_zero, List.getElem?_cons_succ, List.set_cons_zero, List.set_cons_succ, List.all_cons, List.all_nil, Bool.and_true, Bool.true_and, Nat.sub_self, Nat.add_sub_cancel_left, zeroNat, if_true, reduceCtorEq, true_and, and_true, ite_true, ite_false, Bool.false_eq_true, if_false, Nat.reduceAdd, Nat.reduceSub, Nat.reduceLT, Nat.zero_add, List.all, Bool.and_self, Int.reduceToNat, List.reduceReplicate, List.flatten_cons, List.flatten_nil, eq_self, permD, List.getD_cons_zero, List.getD_cons_succ, sIx21, List.take_succ_cons, List.take_zero, Nat.reduceLeDiff, and_self, decide_true, decide_false, Bool.not_true, Bool.not_false]
  exact hQ
theorem h13 : STest fs cs 5 13 isDsc := by
  intro m d W Q hp hQ
  refine wpC_step (f := f13) rfl rfl ?_
  cases d with
  | tup xs =>
    match xs, hp, hQ with
    | [], hp, hQ => simp only [f13, ↓w_for, ↓w_lc, b_add, b_addT, b_addL, b_sub, b_mul, b_mulL, b_mulT, b_fdiv, b_mod, b_pow, c_lt, c_le, c_gt, c_ge, c_eq, c_ne, c_eqS, c_neS, c_eq_tup, c_ne_tup, c_eq_lst, c_ne_lst, c_eq_bl, c_ne_bl, c_inT, c_ninT, i_int, i_intB, i_abs, i_dm, i_len_tup, i_len_lst, i_len_scr, i_max, i_min, i_gcd, i_isqrt, i_tuple1_tup, i_tuple1_lst, i_list1_tup, i_list1_lst, i_all, i_any, i_sum, i_repr_tup, i_repr_lst, i_repr_bl, i_repr_int, y_bl, y_int, y_str, y_tup, y_lst, y_non, it_tup, it_lst, it_scr, t_bl, t_int, t_tup, t_lst, t_non, w_cons, w_nil, wpS, wpE, wpEs, wpG, wpGs, wpI, wpT, startD, nb_fr, view_fr, it_fr, nb_int, nb_tup, nb_bl, nb_str, nb_lst, nb_scr, nb_non, nb_cell, nbs, g_name, g_tup, gsets, wipeD, noOw, itOk, view_int, view_tup, view_bl, view_str, view_lst, view_scr, view_non, at0, at1, at2, at3, ix0, ix1, ix2, tgN, List.map_cons, List.map_nil, List.append_nil, List.nil_append, List.cons_append, List.length_cons, List.length_nil, List.replicate_zero, List.replicate_succ, List.getElem?_cons_zero, List.getElem?_cons_succ, List.set_cons_zero, List.set_cons_succ, List.all_cons, List.all_nil, Bool.and_true, Bool.true_and, Nat.sub_self, Nat.add_sub_cancel_left, zeroNat, if_true, reduceCtorEq, true_and, and_true, ite_true, ite_false, Bool.false_eq_true, if_false, Nat.reduceAdd, Nat.reduceSub, Nat.reduceLT, Nat.zero_add, List.all, Bool.and_self, Int.reduceToNat, List.reduceReplicate, List.flatten_cons, List.flatten_nil, eq_self, permD, List.getD_cons_zero, List.getD_cons_succ, sIx21, List.take_succ_cons, List.take_zero, Nat.reduceLeDiff, and_self, decide_true, decide_false, Bool.not_true, Bool.not_false]; exact hQ
    | [a], hp, hQ => simp only [f13, ↓w_for, ↓w_lc, b_add, b_addT, b_addL, b_sub, b_mul, b_mulL, b_mulT, b_fdiv, b_mod, b_pow, c_lt, c_le, c_gt, c_ge, c_eq, c_ne, c_eqS, c_neS, c_eq_tup, c_ne_tup, c_eq_lst, c_ne_lst, c_eq_bl, c_ne_bl, c_inT, c_ninT, i_int, i_intB, i_abs, i_dm, i_len_tup, i_len_lst, i_len_scr, i_max, i_min, i_gcd, i_isqrt, i_tuple1_tup, i_tuple1_lst, i_list1_tup, i_list1_lst, i_all, i_any, i_sum, i_repr_tup, i_repr_lst, i_repr_bl, i_repr_int, y_bl, y_int, y_str, y_tup, y_lst, y_non, it_tup, it_lst, it_scr, t_bl, t_int, t_tup, t_lst, t_non, w_cons, w_nil, wpS, wpE, wpEs, wpG, wpGs, wpI, wpT, startD, nb_fr, view_fr, it_fr, nb_int, nb_tup, nb_bl, nb_str, nb_lst, nb_scr, nb_non, nb_cell, nbs, g_name, g_tup, gsets, wipeD, noOw, itOk, view_int, view_tup, view_bl, view_str, view_lst, view_scr, view_non, at0, at1, at2, at3, ix0, ix1, ix2, tgN, List.map_cons, List.map_nil, List.append_nil, List.nil_append, List.cons_append, List.length_cons, List.length_nil, List.replicate_zero, List.replicate_succ, List.getElem?_cons_zero, List.getElem?_cons_succ, List.set_cons_zero, List.set_cons_succ, List.all_cons, List.all_nil, Bool.and_true, Bool.true_and, Nat.sub_self, Nat.add_sub_cancel_left, zeroNat, if_true, reduceCtorEq, true_and, and_true, ite_true, ite_false, Bool.false_eq_true, if_false, Nat.reduceAdd, Nat.reduceSub, Nat.reduceLT, Nat.zero_add, List.all, Bool.and_self, Int.reduceToNat, List.reduceReplicate, List.flatten_cons, List.flatten_nil, eq_self, permD, List.getD_cons_zero, List.getD_cons_succ, sIx21, List.take_succ_cons, List.take_zero, Nat.reduceLeDiff, and_self, decide_true, decide_false, Bool.not_true, Bool.not_false]; exact hQ
    | a :: b :: c :: xs, hp, hQ =>
      have e : (((a :: b :: c :: xs).length : Nat) : Int) ≠ 2 := by simp only [List.length_cons]; omega
      simp only [List.length_cons] at e
      simp only [f13, ↓w_for, ↓w_lc, b_add, b_addT, b_addL, b_sub, b_mul, b_mulL, b_mulT, b_fdiv, b_mod, b_pow, c_lt, c_le, c_gt, c_ge, c_eq, c_ne, c_eqS, c_neS, c_eq_tup, c_ne_tup, c_eq_lst, c_ne_lst, c_eq_bl, c_ne_bl, c_inT, c_ninT, i_int, i_intB, i_abs, i_dm, i_len_tup, i_len_lst, i_len_scr, i_max, i_min, i_gcd, i_isqrt, i_tuple1_tup, i_tuple1_lst, i_list1_tup, i_list1_lst, i_all, i_any, i_sum, i_repr_tup, i_repr_lst, i_repr_bl, i_repr_int, y_bl, y_int, y_str, y_tup, y_lst, y_non, it_tup, it_lst, it_scr, t_bl, t_int, t_tup, t_lst, t_non, w_cons, w_nil, wpS, wpE, wpEs, wpG, wpGs, wpI, wpT, startD, nb_fr, view_fr, it_fr, nb_int, nb_tup, nb_bl, nb_str, nb_lst, nb_scr, nb_non, nb_cell, nbs, g_name, g_tup, gsets, wipeD, noOw, itOk, view_int, view_tup, view_bl, view_str, view_lst, view_scr, view_non, at0, at1, at2, at3, ix0, ix1, ix2, tgN, List.map_cons, List.map_nil, List.append_nil, List.nil_append, List.cons_append, List.length_cons, List.length_nil, List.replicate_zero, List.replicate_succ, List.getElem?_cons_zero, List.getElem?_cons_succ, List.set_cons_zero, List.set_cons_succ, List.all_cons, List.all_nil, Bool.and_true, Bool.true_and, Nat.sub_self, Nat.add_sub_cancel_left, zeroNat, if_true, reduceCtorEq, true_and, and_true, ite_true, ite_false, Bool.false_eq_true, if_false, Nat.reduceAdd, Nat.reduceSub, Nat.reduceLT, Nat.zero_add, List.all, Bool.and_self, Int.reduceToNat, List.reduceReplicate, List.flatten_cons, List.flatten_nil, eq_self, permD, List.getD_cons_zero, List.getD_cons_succ, sIx21, List.take_succ_cons, List.take_zero, Nat.reduceLeDiff, and_self, decide_true, decide_false, Bool.not_true, Bool.not_false, e, decide_false]
      exact hQ
    | [a, b], hp, hQ =>
      simp only [D.plain, plains, Bool.and_eq_true] at hp
      simp only [isDsc] at hQ
      have e : (((0 + 1 + 1 : Nat) : Int) = 2) = True := by simp
      simp only [f13, ↓w_for, ↓w_lc, b_add, b_addT, b_addL, b_sub, b_mul, b_mulL, b_mulT, b_fdiv, b_mod, b_pow, c_lt, c_le, c_gt, c_ge, c_eq, c_ne, c_eqS, c_neS, c_eq_tup, c_ne_tup, c_eq_lst, c_ne_lst, c_eq_bl, c_ne_bl, c_inT, c_ninT, i_int, i_intB, i_abs, i_dm, i_len_tup, i_len_lst, i_len_scr, i_max, i_min, i_gcd, i_isqrt, i_tuple1_tup, i_tuple1_lst, i_list1_tup, i_list1_lst, i_all, i_any, i_sum, i_repr_tup, i_repr_lst, i_repr_bl, i_repr_int, y_bl, y_int, y_str, y_tup, y_lst, y_non, it_tup, it_lst, it_scr, t_bl, t_int, t_tup, t_lst, t_non, w_cons, w_nil, wpS, wpE, wpEs, wpG, wpGs, wpI, wpT, startD, nb_fr, view_fr, it_fr, nb_int, nb_tup, nb_bl, nb_str, nb_lst, nb_scr, nb_non, nb_cell, nbs, g_name, g_tup, gsets, wipeD, noOw, itOk, view_int, view_tup, view_bl, view_str, view_lst, view_scr, view_non, at0, at1, at2, at3, ix0, ix1, ix2, tgN, List.map_cons, List.map_nil, List.append_nil, List.nil_append, List.cons_append, List.length_cons, List.length_nil, List.replicate_zero, List.replicate_succ, List.getElem?_cons_zero, List.getElem?_cons_succ, List.set_cons_zero, List.set_cons_succ, List.all_cons, List.all_nil, Bool.and_true, Bool.true_and, Nat.sub_self, Nat.add_sub_cancel_left, zeroNat, if_true, reduceCtorEq, true_and, and_true, ite_true, ite_false, Bool.false_eq_true, if_false, Nat.reduceAdd, Nat.reduceSub, Nat.reduceLT, Nat.zero_add, List.all, Bool.and_self, Int.reduceToNat, List.reduceReplicate, List.flatten_cons, List.flatten_nil, eq_self, permD, List.getD_cons_zero, List.getD_cons_succ, sIx21, List.take_succ_cons, List.take_zero, Nat.reduceLeDiff, and_self, decide_true, decide_false, Bool.not_true, Bool.not_false, plain_nb hp.1, plain_nb hp.2.1]
      refine h4 (m + 1) a W _ hp.1 ?_
      cases e1 : isRat a with
      | false =>
        simp only [e1, Bool.false_and] at hQ
        simp only [↓w_for, ↓w_lc, b_add, b_addT, b_addL, b_sub, b_mul, b_mulL, b_mulT, b_fdiv, b_mod, b_pow, c_lt, c_le, c_gt, c_ge, c_eq, c_ne, c_eqS, c_neS, c_eq_tup, c_ne_tup, c_eq_lst, c_ne_lst, c_eq_bl, c_ne_bl, c_inT, c_ninT, i_int, i_intB, i_abs, i_dm, i_len_tup, i_len_lst, i_len_scr, i_max, i_min, i_gcd, i_isqrt, i_tuple1_tup, i_tuple1_lst, i_list1_tup, i_list1_lst, i_all, i_any, i_sum, i_repr_tup, i_repr_lst, i_repr_bl, i_repr_int, y_bl, y_int, y_str, y_tup, y_lst, y_non, it_tup, it_lst, it_scr, t_bl, t_int, t_tup, t_lst, t_non, w_cons, w_nil, wpS, wpE, wpEs, wpG, wpGs, wpI, wpT, startD, nb_fr, view_fr, it_fr, nb_int, nb_tup, nb_bl, nb_str, nb_lst, nb_scr, nb_non, nb_cell, nbs, g_name, g_tup, gsets, wipeD, noOw, itOk, view_int, view_tup, view_bl, view_str, view_lst, view_scr, view_non, at0, at1, at2, at3, ix0, ix1, ix2, tgN, List.map_cons, List.map_nil, List.append_nil, List.nil_append, List.cons_append, List.length_cons, List.length_nil, List.replicate_zero, List.replicate_succ, List.getElem?_cons_zero, List.getElem?_cons_succ, List.set_cons_zero, List.set_cons_succ, List.all_cons, List.all_nil, Bool.and_true, Bool.true_and, Nat.sub_self, Nat.add_sub_cancel_left, zeroNat, if_true, reduceCtorEq, true_and, and_true, ite_true, ite_false, Bool.false_eq_true, if_false, Nat.reduceAdd, Nat.reduceSub, Nat.reduceLT, Nat.zero_add, List.all, Bool.and_self, Int.reduceToNat, List.reduceReplicate, List.flatten_cons, List.flatten_nil, eq_self, permD, List.getD_cons_zero, List.getD_cons_succ, sIx21, List.take_succ_cons, List.take_zero, Nat.reduceLeDiff, and_self, decide_true, decide_false, Bool.not_true, Bool.not_false]
        exact hQ
      | true =>
        simp only [e1, Bool.true_and] at hQ
        simp only [↓w_for, ↓w_lc, b_add, b_addT, b_addL, b_sub, b_mul, b_mulL, b_mulT, b_fdiv, b_mod, b_pow, c_lt, c_le, c_gt, c_ge, c_eq, c_ne, c_eqS, c_neS, c_eq_tup, c_ne_tup, c_eq_lst, c_ne_lst, c_eq_bl, c_ne_bl, c_inT, c_ninT, i_int, i_intB, i_abs, i_dm, i_len_tup, i_len_lst, i_len_scr, i_max, i_min, i_gcd, i_isqrt, i_tuple1_tup, i_tuple1_lst, i_list1_tup, i_list1_lst, i_all, i_any, i_sum, i_repr_tup, i_repr_lst, i_repr_bl, i_repr_int, y_bl, y_int, y_str, y_tup, y_lst, y_non, it_tup, it_lst, it_scr, t_bl, t_int, t_tup, t_lst, t_non, w_cons, w_nil, wpS, wpE, wpEs, wpG, wpGs, wpI, wpT, startD, nb_fr, view_fr, it_fr, nb_int, nb_tup, nb_bl, nb_str, nb_lst, nb_scr, nb_non, nb_cell, nbs, g_name, g_tup, gsets, wipeD, noOw, itOk, view_int, view_tup, view_bl, view_str, view_lst, view_scr, view_non, at0, at1, at2, at3, ix0, ix1, ix2, tgN, List.map_cons, List.map_nil, List.append_nil, List.nil_append, List.cons_append, List.length_cons, List.length_nil, List.replicate_zero, List.replicate_succ, List.getElem?_cons_zero, List.getElem?_cons_succ, List.set_cons_zero, List.set_cons_succ, List.all_cons, List.all_nil, Bool.and_true, Bool.true_and, Nat.sub_self, Nat.add_sub_cancel_left, zeroNat, if_true, reduceCtorEq, true_and, and_true, ite_true, ite_false, Bool.false_eq_true, if_false, Nat.reduceAdd, Nat.reduceSub, Nat.reduceLT, Nat.zero_add, List.all, Bool.and_self, Int.reduceToNat, List.reduceReplicate, List.flatten_cons, List.flatten_nil, eq_self, permD, List.getD_cons_zero, List.getD_cons_succ, sIx21, List.take_succ_cons, List.take_zero, Nat.reduceLeDiff, and_self, decide_true, decide_false, Bool.not_true, Bool.not_false]
        exact h5 m b W _ hp.2.1 ⟨rfl, hQ⟩
  | _ => first | (simp only [D.plain, Bool.false_eq_true] at hp; done) | (simp only [f13, ↓w_for, ↓w_lc, b_add, b_addT, b_addL, b_sub, b_mul, b_mulL, b_mulT, b_fdiv, b_mod, b_pow, c_lt, c_le, c_gt, c_ge, c_eq, c_ne, c_eqS, c_neS, c_eq_tup, c_ne_tup, c_eq_lst, c_ne_lst, c_eq_bl, c_ne_bl, c_inT, c_ninT, i_int, i_intB, i_abs, i_dm, i_len_tup, i_len_lst, i_len_scr, i_max, i_min, i_gcd, i_isqrt, i_tuple1_tup, i_tuple1_lst, i_list1_tup, i_list1_lst, i_all, i_any, i_sum, i_repr_tup, i_repr_lst, i_repr_bl, i_repr_int, y_bl, y_int, y_str, y_tup, y_lst, y_non, it_tup, it_lst, it_scr, t_bl, t_int, t_tup, t_lst, t_non, w_cons, w_nil, wpS, wpE, wpEs, wpG, wpGs, wpI, wpT, startD, nb_fr, view_fr, it_fr, nb_int, nb_tup, nb_bl, nb_str, nb_lst, nb_scr, nb_non, nb_cell, nbs, g_name, g_tup, gsets, wipeD, noOw, itOk, view_int, view_tup, view_bl, view_str, view_lst, view_scr, view_non, at0, at1, at2, at3, ix0, ix1, ix2, tgN, List.map_cons, List.map_nil, List.append_nil, List.nil_append, List.cons_append, List.length_cons, List.length_nil, List.replicate_zero, List.replicate_succ, List.getElem?_cons_zero, List.getElem?_cons_succ, List.set_cons_zero, List.set_cons_succ, List.all_cons, List.all_nil, Bool.and_true, Bool.true_and, Nat.sub_self, Nat.add_sub_cancel_left, zeroNat, if_true, reduceCtorEq, true_and, and_true, ite_true, ite_false, Bool.false_eq_true, if_false, Nat.reduceAdd, Nat.reduceSub, Nat.reduceLT, Nat.zero_add, List.all, Bool.and_self, Int.reduceToNat, List.reduceReplicate, List.flatten_cons, List.flatten_nil, eq_self, permD, List.getD_cons_zero, List.getD_cons_succ, sIx21, List.take_succ_cons, List.take_zero, Nat.reduceLeDiff, and_self, decide_true, decide_false, Bool.not_true, Bool.not_false]; exact hQ)
theorem h14 (m : Nat) (c r c' r' : Rat) (W : Ce) (Q : D → Ce → Prop) (b1 : Bd 500 c) (b2 : Bd 500 r) (b3 : Bd 500 c') (b4 : Bd 500 r') (hQ : Q (.bl (inn c r c' r')) W) : wpC fs cs (m + 5) 14 [dsc c r, dsc c' r'] W Q := by
  refine wpC_step (f := f14) rfl rfl ?_
  simp only [f14, dsc, ↓w_for, ↓w_lc, b_add, b_addT, b_addL, b_sub, b_mul, b_mulL, b_mulT, b_fdiv, b_mod, b_pow, c_lt, c_le, c_gt, c_ge, c_eq, c_ne, c_eqS, c_neS, c_eq_tup, c_ne_tup, c_eq_lst, c_ne_lst, c_eq_bl, c_ne_bl, c_inT, c_ninT, i_int, i_intB, i_abs, i_dm, i_len_tup, i_len_lst, i_len_scr, i_max, i_min, i_gcd, i_isqrt, i_tuple1_tup, i_tuple1_lst, i_list1_tup, i_list1_lst, i_all, i_any, i_sum, i_repr_tup, i_repr_lst, i_repr_bl, i_repr_int, y_bl, y_int, y_str, y_tup, y_lst, y_non, it_tup, it_lst, it_scr, t_bl, t_int, t_tup, t_lst, t_non, w_cons, w_nil, wpS, wpE, wpEs, wpG, wpGs, wpI, wpT, startD, nb_fr, view_fr, it_fr, nb_int, nb_tup, nb_bl, nb_str, nb_lst, nb_scr, nb_non, nb_cell, nbs, g_name, g_tup, gsets, wipeD, noOw, itOk, view_int, view_tup, view_bl, view_str, view_lst, view_scr, view_non, at0, at1, at2, at3, ix0, ix1, ix2, tgN, List.map_cons, List.map_nil, List.append_nil, List.nil_append, List.cons_append, List.length_cons, List.length_nil, List.replicate_zero, List.replicate_succ, List.getElem?_cons_zero, List.getElem?_cons_succ, List.set_cons_zero, List.set_cons_succ, List.all_cons, List.all_nil, Bool.and_true, Bool.true_and, Nat.sub_self, Nat.add_sub_cancel_left, zeroNat, if_true, reduceCtorEq, true_and, and_true, ite_true, ite_false, Bool.false_eq_true, if_false, Nat.reduceAdd, Nat.reduceSub, Nat.reduceLT, Nat.zero_add, List.all, Bool.and_self, Int.reduceToNat, List.reduceReplicate, List.flatten_cons, List.flatten_nil, eq_self, permD, List.getD_cons_zero, List.getD_cons_succ, sIx21, List.take_succ_cons, List.take_zero, Nat.reduceLeDiff, and_self, decide_true, decide_false, Bool.not_true, Bool.not_false]
  refine h8 m c c' 500 500 W _ b1 b3 (by decide) ?_
  simp only [↓w_for, ↓w_lc, b_add, b_addT, b_addL, b_sub, b_mul, b_mulL, b_mulT, b_fdiv, b_mod, b_pow, c_lt, c_le, c_gt, c_ge, c_eq, c_ne, c_eqS, c_neS, c_eq_tup, c_ne_tup, c_eq_lst, c_ne_lst, c_eq_bl, c_ne_bl, c_inT, c_ninT, i_int, i_intB, i_abs, i_dm, i_len_tup, i_len_lst, i_len_scr, i_max, i_min, i_gcd, i_isqrt, i_tuple1_tup, i_tuple1_lst, i_list1_tup, i_list1_lst, i_all, i_any, i_sum, i_repr_tup, i_repr_lst, i_repr_bl, i_repr_int, y_bl, y_int, y_str, y_tup, y_lst, y_non, it_tup, it_lst, it_scr, t_bl, t_int, t_tup, t_lst, t_non, w_cons, w_nil, wpS, wpE, wpEs, wpG, wpGs, wpI, wpT, startD, nb_fr, view_fr, it_fr, nb_int, nb_tup, nb_bl, nb_str, nb_lst, nb_scr, nb_non, nb_cell, nbs, g_name, g_tup, gsets, wipeD, noOw, itOk, view_int, view_tup, view_bl, view_str, view_lst, view_scr, view_non, at0, at1, at2, at3, ix0, ix1, ix2, tgN, List.map_cons, List.map_nil, List.append_nil, List.nil_append, List.cons_append, List.length_cons, List.length_nil, List.replicate_zero, List.replicate_succ, List.getElem?_cons_zero, List.getElem?_cons_succ, List.set_cons_zero, List.set_cons_succ, List.all_cons, List.all_nil, Bool.and_true, Bool.true_and, Nat.sub_self, Nat.add_sub_cancel_left, zeroNat, if_true, reduceCtorEq, true_and, and_true, ite_true, ite_false, Bool.false_eq_true, if_false, Nat.reduceAdd, Nat.reduceSub, Nat.reduceLT, Nat.zero_add, List.all, Bool.and_self, Int.reduceToNat, List.reduceReplicate, List.flatten_cons, List.flatten_nil, eq_self, permD, List.getD_cons_zero, List.getD_cons_succ, sIx21, List.take_succ_cons, List.take_zero, Nat.reduceLeDiff, and_self, decide_true, decide_false, Bool.not_true, Bool.not_false]
  refine h10 (m + 3) (c - c') W _ ?_
  simp only [↓w_for, ↓w_lc, b_add, b_addT, b_addL, b_sub, b_mul, b_mulL, b_mulT, b_fdiv, b_mod, b_pow, c_lt, c_le, c_gt, c_ge, c_eq, c_ne, c_eqS, c_neS, c_eq_tup, c_ne_tup, c_eq_lst, c_ne_lst, c_eq_bl, c_ne_bl, c_inT, c_ninT, i_int, i_intB, i_abs, i_dm, i_len_tup, i_len_lst, i_len_scr, i_max, i_min, i_gcd, i_isqrt, i_tuple1_tup, i_tuple1_lst, i_list1_tup, i_list1_lst, i_all, i_any, i_sum, i_repr_tup, i_repr_lst, i_repr_bl, i_repr_int, y_bl, y_int, y_str, y_tup, y_lst, y_non, it_tup, it_lst, it_scr, t_bl, t_int, t_tup, t_lst, t_non, w_cons, w_nil, wpS, wpE, wpEs, wpG, wpGs, wpI, wpT, startD, nb_fr, view_fr, it_fr, nb_int, nb_tup, nb_bl, nb_str, nb_lst, nb_scr, nb_non, nb_cell, nbs, g_name, g_tup, gsets, wipeD, noOw, itOk, view_int, view_tup, view_bl, view_str, view_lst, view_scr, view_non, at0, at1, at2, at3, ix0, ix1, ix2, tgN, List.map_cons, List.map_nil, List.append_nil, List.nil_append, List.cons_append, List.length_cons, List.length_nil, List.replicate_zero, List.replicate_succ, List.getElem?_cons_zero, List.getElem?_cons_succ, List.set_cons_zero, List.set_cons_succ, List.all_cons, List.all_nil, Bool.and_true, Bool.true_and, Nat.sub_self, Nat.add_sub_cancel_left, zeroNat, if_true, reduceCtorEq, true_and, and_true, ite_true, ite_false, Bool.false_eq_true, if_false, Nat.reduceAdd, Nat.reduceSub, Nat.reduceLT, Nat.zero_add, List.all, Bool.and_self, Int.reduceToNat, List.reduceReplicate, List.flatten_cons, List.flatten_nil, eq_self, permD, List.getD_cons_zero, List.getD_cons_succ, sIx21, List.take_succ_cons, List.take_zero, Nat.reduceLeDiff, and_self, decide_true, decide_false, Bool.not_true, Bool.not_false]
  refine h7 m (absR (c - c')) r 1001 500 W _ (b1.sub b3).abs b2 (by decide) ?_
  simp only [↓w_for, ↓w_lc, b_add, b_addT, b_addL, b_sub, b_mul, b_mulL, b_mulT, b_fdiv, b_mod, b_pow, c_lt, c_le, c_gt, c_ge, c_eq, c_ne, c_eqS, c_neS, c_eq_tup, c_ne_tup, c_eq_lst, c_ne_lst, c_eq_bl, c_ne_bl, c_inT, c_ninT, i_int, i_intB, i_abs, i_dm, i_len_tup, i_len_lst, i_len_scr, i_max, i_min, i_gcd, i_isqrt, i_tuple1_tup, i_tuple1_lst, i_list1_tup, i_list1_lst, i_all, i_any, i_sum, i_repr_tup, i_repr_lst, i_repr_bl, i_repr_int, y_bl, y_int, y_str, y_tup, y_lst, y_non, it_tup, it_lst, it_scr, t_bl, t_int, t_tup, t_lst, t_non, w_cons, w_nil, wpS, wpE, wpEs, wpG, wpGs, wpI, wpT, startD, nb_fr, view_fr, it_fr, nb_int, nb_tup, nb_bl, nb_str, nb_lst, nb_scr, nb_non, nb_cell, nbs, g_name, g_tup, gsets, wipeD, noOw, itOk, view_int, view_tup, view_bl, view_str, view_lst, view_scr, view_non, at0, at1, at2, at3, ix0, ix1, ix2, tgN, List.map_cons, List.map_nil, List.append_nil, List.nil_append, List.cons_append, List.length_cons, List.length_nil, List.replicate_zero, List.replicate_succ, List.getElem?_cons_zero, List.getElem?_cons_succ, List.set_cons_zero, List.set_cons_succ, List.all_cons, List.all_nil, Bool.and_true, Bool.true_and, Nat.sub_self, Nat.add_sub_cancel_left, zeroNat, if_true, reduceCtorEq, true_and, and_true, ite_true, ite_false, Bool.false_eq_true, if_false, Nat.reduceAdd, Nat.reduceSub, Nat.reduceLT, Nat.zero_add, List.all, Bool.and_self, Int.reduceToNat, List.reduceReplicate, List.flatten_cons, List.flatten_nil, eq_self, permD, List.getD_cons_zero, List.getD_cons_succ, sIx21, List.take_succ_cons, List.take_zero, Nat.reduceLeDiff, and_self, decide_true, decide_false, Bool.not_true, Bool.not_false]
  refine h11 (m + 3) r' _ 500 1502 W _ b4 ((b1.sub b3).abs.add b2) (by decide) ?_
  simp only [↓w_for, ↓w_lc, b_add, b_addT, b_addL, b_sub, b_mul, b_mulL, b_mulT, b_fdiv, b_mod, b_pow, c_lt, c_le, c_gt, c_ge, c_eq, c_ne, c_eqS, c_neS, c_eq_tup, c_ne_tup, c_eq_lst, c_ne_lst, c_eq_bl, c_ne_bl, c_inT, c_ninT, i_int, i_intB, i_abs, i_dm, i_len_tup, i_len_lst, i_len_scr, i_max, i_min, i_gcd, i_isqrt, i_tuple1_tup, i_tuple1_lst, i_list1_tup, i_list1_lst, i_all, i_any, i_sum, i_repr_tup, i_repr_lst, i_repr_bl, i_repr_int, y_bl, y_int, y_str, y_tup, y_lst, y_non, it_tup, it_lst, it_scr, t_bl, t_int, t_tup, t_lst, t_non, w_cons, w_nil, wpS, wpE, wpEs, wpG, wpGs, wpI, wpT, startD, nb_fr, view_fr, it_fr, nb_int, nb_tup, nb_bl, nb_str, nb_lst, nb_scr, nb_non, nb_cell, nbs, g_name, g_tup, gsets, wipeD, noOw, itOk, view_int, view_tup, view_bl, view_str, view_lst, view_scr, view_non, at0, at1, at2, at3, ix0, ix1, ix2, tgN, List.map_cons, List.map_nil, List.append_nil, List.nil_append, List.cons_append, List.length_cons, List.length_nil, List.replicate_zero, List.replicate_succ, List.getElem?_cons_zero, List.getElem?_cons_succ, List.set_cons_zero, List.set_cons_succ, List.all_cons, List.all_nil, Bool.and_true, Bool.true_and, Nat.sub_self, Nat.add_sub_cancel_left, zeroNat, if_true, reduceCtorEq, true_and, and_true, ite_true, ite_false, Bool.false_eq_true, if_false, Nat.reduceAdd, Nat.reduceSub, Nat.reduceLT, Nat.zero_add, List.all, Bool.and_self, Int.reduceToNat, List.reduceReplicate, List.flatten_cons, List.flatten_nil, eq_self, permD, List.getD_cons_zero, List.getD_cons_succ, sIx21, List.take_succ_cons, List.take_zero, Nat.reduceLeDiff, and_self, decide_true, decide_false, Bool.not_true, Bool.not_false]
  exact hQ
theorem h15 (m : Nat) (c r : Rat) (W : Ce) (Q : D → Ce → Prop) (h : 0 ≤ r) (hQ : Q .non W) : wpC fs cs (m + 6) 15 [dsc c r] W Q := by
  refine wpC_step (f := f15) rfl rfl ?_
  simp only [f15, ↓w_for, ↓w_lc, b_add, b_addT, b_addL, b_sub, b_mul, b_mulL, b_mulT, b_fdiv, b_mod, b_pow, c_lt, c_le, c_gt, c_ge, c_eq, c_ne, c_eqS, c_neS, c_eq_tup, c_ne_tup, c_eq_lst, c_ne_lst, c_eq_bl, c_ne_bl, c_inT, c_ninT, i_int, i_intB, i_abs, i_dm, i_len_tup, i_len_lst, i_len_scr, i_max, i_min, i_gcd, i_isqrt, i_tuple1_tup, i_tuple1_lst, i_list1_tup, i_list1_lst, i_all, i_any, i_sum, i_repr_tup, i_repr_lst, i_repr_bl, i_repr_int, y_bl, y_int, y_str, y_tup, y_lst, y_non, it_tup, it_lst, it_scr, t_bl, t_int, t_tup, t_lst, t_non, w_cons, w_nil, wpS, wpE, wpEs, wpG, wpGs, wpI, wpT, startD, nb_fr, view_fr, it_fr, nb_int, nb_tup, nb_bl, nb_str, nb_lst, nb_scr, nb_non, nb_cell, nbs, g_name, g_tup, gsets, wipeD, noOw, itOk, view_int, view_tup, view_bl, view_str, view_lst, view_scr, view_non, at0, at1, at2, at3, ix0, ix1, ix2, tgN, List.map_cons, List.map_nil, List.append_nil, List.nil_append, List.cons_append, List.length_cons, List.length_nil, List.replicate_zero, List.replicate_succ, List.getElem?_cons_zero, List.getElem?_cons_succ, List.set_cons_zero, List.set_cons_succ, List.all_cons, List.all_nil, Bool.and_true, Bool.true_and, Nat.sub_self, Nat.add_sub_cancel_left, zeroNat, if_true, reduceCtorEq, true_and, and_true, ite_true, ite_false, Bool.false_eq_true, if_false, Nat.reduceAdd, Nat.reduceSub, Nat.reduceLT, Nat.zero_add, List.all, Bool.and_self, Int.reduceToNat, List.reduceReplicate, List.flatten_cons, List.flatten_nil, eq_self, permD, List.getD_cons_zero, List.getD_cons_succ, sIx21, List.take_succ_cons, List.take_zero, Nat.reduceLeDiff, and_self, decide_true, decide_false, Bool.not_true, Bool.not_false, dsc_nb]
  refine h13 m (dsc c r) W _ rfl ?_
  simp only [isDsc_ok h, ↓w_for, ↓w_lc, b_add, b_addT, b_addL, b_sub, b_mul, b_mulL, b_mulT, b_fdiv, b_mod, b_pow, c_lt, c_le, c_gt, c_ge, c_eq, c_ne, c_eqS, c_neS, c_eq_tup, c_ne_tup, c_eq_lst, c_ne_lst, c_eq_bl, c_ne_bl, c_inT, c_ninT, i_int, i_intB, i_abs, i_dm, i_len_tup, i_len_lst, i_len_scr, i_max, i_min, i_gcd, i_isqrt, i_tuple1_tup, i_tuple1_lst, i_list1_tup, i_list1_lst, i_all, i_any, i_sum, i_repr_tup, i_repr_lst, i_repr_bl, i_repr_int, y_bl, y_int, y_str, y_tup, y_lst, y_non, it_tup, it_lst, it_scr, t_bl, t_int, t_tup, t_lst, t_non, w_cons, w_nil, wpS, wpE, wpEs, wpG, wpGs, wpI, wpT, startD, nb_fr, view_fr, it_fr, nb_int, nb_tup, nb_bl, nb_str, nb_lst, nb_scr, nb_non, nb_cell, nbs, g_name, g_tup, gsets, wipeD, noOw, itOk, view_int, view_tup, view_bl, view_str, view_lst, view_scr, view_non, at0, at1, at2, at3, ix0, ix1, ix2, tgN, List.map_cons, List.map_nil, List.append_nil, List.nil_append, List.cons_append, List.length_cons, List.length_nil, List.replicate_zero, List.replicate_succ, List.getElem?_cons_zero, List.getElem?_cons_succ, List.set_cons_zero, List.set_cons_succ, List.all_cons, List.all_nil, Bool.and_true, Bool.true_and, Nat.sub_self, Nat.add_sub_cancel_left, zeroNat, if_true, reduceCtorEq, true_and, and_true, ite_true, ite_false, Bool.false_eq_true, if_false, Nat.reduceAdd, Nat.reduceSub, Nat.reduceLT, Nat.zero_add, List.all, Bool.and_self, Int.reduceToNat, List.reduceReplicate, List.flatten_cons, List.flatten_nil, eq_self, permD, List.getD_cons_zero, List.getD_cons_succ, sIx21, List.take_succ_cons, List.take_zero, Nat.reduceLeDiff, and_self, decide_true, decide_false, Bool.not_true, Bool.not_false]
  exact hQ
theorem h16 : STest fs cs 6 16 isDsc := by
  intro m d W Q hp hQ
  refine wpC_step (f := f16) rfl rfl ?_
  simp only [f16, ↓w_for, ↓w_lc, b_add, b_addT, b_addL, b_sub, b_mul, b_mulL, b_mulT, b_fdiv, b_mod, b_pow, c_lt, c_le, c_gt, c_ge, c_eq, c_ne, c_eqS, c_neS, c_eq_tup, c_ne_tup, c_eq_lst, c_ne_lst, c_eq_bl, c_ne_bl, c_inT, c_ninT, i_int, i_intB, i_abs, i_dm, i_len_tup, i_len_lst, i_len_scr, i_max, i_min, i_gcd, i_isqrt, i_tuple1_tup, i_tuple1_lst, i_list1_tup, i_list1_lst, i_all, i_any, i_sum, i_repr_tup, i_repr_lst, i_repr_bl, i_repr_int, y_bl, y_int, y_str, y_tup, y_lst, y_non, it_tup, it_lst, it_scr, t_bl, t_int, t_tup, t_lst, t_non, w_cons, w_nil, wpS, wpE, wpEs, wpG, wpGs, wpI, wpT, startD, nb_fr, view_fr, it_fr, nb_int, nb_tup, nb_bl, nb_str, nb_lst, nb_scr, nb_non, nb_cell, nbs, g_name, g_tup, gsets, wipeD, noOw, itOk, view_int, view_tup, view_bl, view_str, view_lst, view_scr, view_non, at0, at1, at2, at3, ix0, ix1, ix2, tgN, List.map_cons, List.map_nil, List.append_nil, List.nil_append, List.cons_append, List.length_cons, List.length_nil, List.replicate_zero, List.replicate_succ, List.getElem?_cons_zero, List.getElem?_cons_succ, List.set_cons_zero, List.set_cons_succ, List.all_cons, List.all_nil, Bool.and_true, Bool.true_and, Nat.sub_self, Nat.add_sub_cancel_left, zeroNat, if_true, reduceCtorEq, true_and, and_true, ite_true, ite_false, Bool.false_eq_true, if_false, Nat.reduceAdd, Nat.reduceSub, Nat.reduceLT, Nat.zero_add, List.all, Bool.and_self, Int.reduceToNat, List.reduceReplicate, List.flatten_cons, List.flatten_nil, eq_self, permD, List.getD_cons_zero, List.getD_cons_succ, sIx21, List.take_succ_cons, List.take_zero, Nat.reduceLeDiff, and_self, decide_true, decide_false, Bool.not_true, Bool.not_false, plain_nb hp]
  refine h13 m d W _ hp ?_
  simp only [↓w_for, ↓w_lc, b_add, b_addT, b_addL, b_sub, b_mul, b_mulL, b_mulT, b_fdiv, b_mod, b_pow, c_lt, c_le, c_gt, c_ge, c_eq, c_ne, c_eqS, c_neS, c_eq_tup, c_ne_tup, c_eq_lst, c_ne_lst, c_eq_bl, c_ne_bl, c_inT, c_ninT, i_int, i_intB, i_abs, i_dm, i_len_tup, i_len_lst, i_len_scr, i_max, i_min, i_gcd, i_isqrt, i_tuple1_tup, i_tuple1_lst, i_list1_tup, i_list1_lst, i_all, i_any, i_sum, i_repr_tup, i_repr_lst, i_repr_bl, i_repr_int, y_bl, y_int, y_str, y_tup, y_lst, y_non, it_tup, it_lst, it_scr, t_bl, t_int, t_tup, t_lst, t_non, w_cons, w_nil, wpS, wpE, wpEs, wpG, wpGs, wpI, wpT, startD, nb_fr, view_fr, it_fr, nb_int, nb_tup, nb_bl, nb_str, nb_lst, nb_scr, nb_non, nb_cell, nbs, g_name, g_tup, gsets, wipeD, noOw, itOk, view_int, view_tup, view_bl, view_str, view_lst, view_scr, view_non, at0, at1, at2, at3, ix0, ix1, ix2, tgN, List.map_cons, List.map_nil, List.append_nil, List.nil_append, List.cons_append, List.length_cons, List.length_nil, List.replicate_zero, List.replicate_succ, List.getElem?_cons_zero, List.getElem?_cons_succ, List.set_cons_zero, List.set_cons_succ, List.all_cons, List.all_nil, Bool.and_true, Bool.true_and, Nat.sub_self, Nat.add_sub_cancel_left, zeroNat, if_true, reduceCtorEq, true_and, and_true, ite_true, ite_false, Bool.false_eq_true, if_false, Nat.reduceAdd, Nat.reduceSub, Nat.reduceLT, Nat.zero_add, List.all, Bool.and_self, Int.reduceToNat, List.reduceReplicate, List.flatten_cons, List.flatten_nil, eq_self, permD, List.getD_cons_zero, List.getD_cons_succ, sIx21, List.take_succ_cons, List.take_zero, Nat.reduceLeDiff, and_self, decide_true, decide_false, Bool.not_true, Bool.not_false]
  exact hQ
theorem h17 (m : Nat) (c r c' r' : Rat) (W : Ce) (Q : D → Ce → Prop) (b1 : Bd 500 c) (b2 : Bd 500 r) (b3 : Bd 500 c') (b4 : Bd 500 r') (p : 0 ≤ r) (p' : 0 ≤ r') (hQ : Q (.bl (inn c r c' r')) W) : wpC fs cs (m + 7) 17 [dsc c r, dsc c' r'] W Q := by
  refine wpC_step (f := f17) rfl rfl ?_
  simp only [f17, ↓w_for, ↓w_lc, b_add, b_addT, b_addL, b_sub, b_mul, b_mulL, b_mulT, b_fdiv, b_mod, b_pow, c_lt, c_le, c_gt, c_ge, c_eq, c_ne, c_eqS, c_neS, c_eq_tup, c_ne_tup, c_eq_lst, c_ne_lst, c_eq_bl, c_ne_bl, c_inT, c_ninT, i_int, i_intB, i_abs, i_dm, i_len_tup, i_len_lst, i_len_scr, i_max, i_min, i_gcd, i_isqrt, i_tuple1_tup, i_tuple1_lst, i_list1_tup, i_list1_lst, i_all, i_any, i_sum, i_repr_tup, i_repr_lst, i_repr_bl, i_repr_int, y_bl, y_int, y_str, y_tup, y_lst, y_non, it_tup, it_lst, it_scr, t_bl, t_int, t_tup, t_lst, t_non, w_cons, w_nil, wpS, wpE, wpEs, wpG, wpGs, wpI, wpT, startD, nb_fr, view_fr, it_fr, nb_int, nb_tup, nb_bl, nb_str, nb_lst, nb_scr, nb_non, nb_cell, nbs, g_name, g_tup, gsets, wipeD, noOw, itOk, view_int, view_tup, view_bl, view_str, view_lst, view_scr, view_non, at0, at1, at2, at3, ix0, ix1, ix2, tgN, List.map_cons, List.map_nil, List.append_nil, List.nil_append, List.cons_append, List.length_cons, List.length_nil, List.replicate_zero, List.replicate_succ, List.getElem?_cons_zero, List.getElem?_cons_succ, List.set_cons_zero, List.set_cons_succ, List.all_cons, List.all_nil, Bool.and_true, Bool.true_and, Nat.sub_self, Nat.add_sub_cancel_left, zeroNat, if_true, reduceCtorEq, true_and, and_true, ite_true, ite_false, Bool.false_eq_true, if_false, Nat.reduceAdd, Nat.reduceSub, Nat.reduceLT, Nat.zero_add, List.all, Bool.and_self, Int.reduceToNat, List.reduceReplicate, List.flatten_cons, List.flatten_nil, eq_self, permD, List.getD_cons_zero, List.getD_cons_succ, sIx21, List.take_succ_cons, List.take_zero, Nat.reduceLeDiff, and_self, decide_true, decide_false, Bool.not_true, Bool.not_false, dsc_nb]
  refine h15 m c r W _ p ?_
  refine rest_go ?_
  simp only [↓w_for, ↓w_lc, b_add, b_addT, b_addL, b_sub, b_mul, b_mulL, b_mulT, b_fdiv, b_mod, b_pow, c_lt, c_le, c_gt, c_ge, c_eq, c_ne, c_eqS, c_neS, c_eq_tup, c_ne_tup, c_eq_lst, c_ne_lst, c_eq_bl, c_ne_bl, c_inT, c_ninT, i_int, i_intB, i_abs, i_dm, i_len_tup, i_len_lst, i_len_scr, i_max, i_min, i_gcd, i_isqrt, i_tuple1_tup, i_tuple1_lst, i_list1_tup, i_list1_lst, i_all, i_any, i_sum, i_repr_tup, i_repr_lst, i_repr_bl, i_repr_int, y_bl, y_int, y_str, y_tup, y_lst, y_non, it_tup, it_lst, it_scr, t_bl, t_int, t_tup, t_lst, t_non, w_cons, w_nil, wpS, wpE, wpEs, wpG, wpGs, wpI, wpT, startD, nb_fr, view_fr, it_fr, nb_int, nb_tup, nb_bl, nb_str, nb_lst, nb_scr, nb_non, nb_cell, nbs, g_name, g_tup, gsets, wipeD, noOw, itOk, view_int, view_tup, view_bl, view_str, view_lst, view_scr, view_non, at0, at1, at2, at3, ix0, ix1, ix2, tgN, List.map_cons, List.map_nil, List.append_nil, List.nil_append, List.cons_append, List.length_cons, List.length_nil, List.replicate_zero, List.replicate_succ, List.getElem?_cons_zero, List.getElem?_cons_succ, List.set_cons_zero, List.set_cons_succ, List.all_cons, List.all_nil, Bool.and_true, Bool.true_and, Nat.sub_self, Nat.add_sub_cancel_left, zeroNat, if_true, reduceCtorEq, true_and, and_true, ite_true, ite_false, Bool.false_eq_true, if_false, Nat.reduceAdd, Nat.reduceSub, Nat.reduceLT, Nat.zero_add, List.all, Bool.and_self, Int.reduceToNat, List.reduceReplicate, List.flatten_cons, List.flatten_nil, eq_self, permD, List.getD_cons_zero, List.getD_cons_succ, sIx21, List.take_succ_cons, List.take_zero, Nat.reduceLeDiff, and_self, decide_true, decide_false, Bool.not_true, Bool.not_false, dsc_nb]
  refine h15 m c' r' W _ p' ?_
  refine rest_go ?_
  simp only [↓w_for, ↓w_lc, b_add, b_addT, b_addL, b_sub, b_mul, b_mulL, b_mulT, b_fdiv, b_mod, b_pow, c_lt, c_le, c_gt, c_ge, c_eq, c_ne, c_eqS, c_neS, c_eq_tup, c_ne_tup, c_eq_lst, c_ne_lst, c_eq_bl, c_ne_bl, c_inT, c_ninT, i_int, i_intB, i_abs, i_dm, i_len_tup, i_len_lst, i_len_scr, i_max, i_min, i_gcd, i_isqrt, i_tuple1_tup, i_tuple1_lst, i_list1_tup, i_list1_lst, i_all, i_any, i_sum, i_repr_tup, i_repr_lst, i_repr_bl, i_repr_int, y_bl, y_int, y_str, y_tup, y_lst, y_non, it_tup, it_lst, it_scr, t_bl, t_int, t_tup, t_lst, t_non, w_cons, w_nil, wpS, wpE, wpEs, wpG, wpGs, wpI, wpT, startD, nb_fr, view_fr, it_fr, nb_int, nb_tup, nb_bl, nb_str, nb_lst, nb_scr, nb_non, nb_cell, nbs, g_name, g_tup, gsets, wipeD, noOw, itOk, view_int, view_tup, view_bl, view_str, view_lst, view_scr, view_non, at0, at1, at2, at3, ix0, ix1, ix2, tgN, List.map_cons, List.map_nil, List.append_nil, List.nil_append, List.cons_append, List.length_cons, List.length_nil, List.replicate_zero, List.replicate_succ, List.getElem?_cons_zero, List.getElem?_cons_succ, List.set_cons_zero, List.set_cons_succ, List.all_cons, List.all_nil, Bool.and_true, Bool.true_and, Nat.sub_self, Nat.add_sub_cancel_left, zeroNat, if_true, reduceCtorEq, true_and, and_true, ite_true, ite_false, Bool.false_eq_true, if_false, Nat.reduceAdd, Nat.reduceSub, Nat.reduceLT, Nat.zero_add, List.all, Bool.and_self, Int.reduceToNat, List.reduceReplicate, List.flatten_cons, List.flatten_nil, eq_self, permD, List.getD_cons_zero, List.getD_cons_succ, sIx21, List.take_succ_cons, List.take_zero, Nat.reduceLeDiff, and_self, decide_true, decide_false, Bool.not_true, Bool.not_false, dsc_nb]
  refine h14 (m + 1) c r c' r' W _ b1 b2 b3 b4 ?_
  simp only [↓w_for, ↓w_lc, b_add, b_addT, b_addL, b_sub, b_mul, b_mulL, b_mulT, b_fdiv, b_mod, b_pow, c_lt, c_le, c_gt, c_ge, c_eq, c_ne, c_eqS, c_neS, c_eq_tup, c_ne_tup, c_eq_lst, c_ne_lst, c_eq_bl, c_ne_bl, c_inT, c_ninT, i_int, i_intB, i_abs, i_dm, i_len_tup, i_len_lst, i_len_scr, i_max, i_min, i_gcd, i_isqrt, i_tuple1_tup, i_tuple1_lst, i_list1_tup, i_list1_lst, i_all, i_any, i_sum, i_repr_tup, i_repr_lst, i_repr_bl, i_repr_int, y_bl, y_int, y_str, y_tup, y_lst, y_non, it_tup, it_lst, it_scr, t_bl, t_int, t_tup, t_lst, t_non, w_cons, w_nil, wpS, wpE, wpEs, wpG, wpGs, wpI, wpT, startD, nb_fr, view_fr, it_fr, nb_int, nb_tup, nb_bl, nb_str, nb_lst, nb_scr, nb_non, nb_cell, nbs, g_name, g_tup, gsets, wipeD, noOw, itOk, view_int, view_tup, view_bl, view_str, view_lst, view_scr, view_non, at0, at1, at2, at3, ix0, ix1, ix2, tgN, List.map_cons, List.map_nil, List.append_nil, List.nil_append, List.cons_append, List.length_cons, List.length_nil, List.replicate_zero, List.replicate_succ, List.getElem?_cons_zero, List.getElem?_cons_succ, List.set_cons_zero, List.set_cons_succ, List.all_cons, List.all_nil, Bool.and_true, Bool.true_and, Nat.sub_self, Nat.add_sub_cancel_left, zeroNat, if_true, reduceCtorEq, true_and, and_true, ite_true, ite_false, Bool.false_eq_true, if_false, Nat.reduceAdd, Nat.reduceSub, Nat.reduceLT, Nat.zero_add, List.all, Bool.and_self, Int.reduceToNat, List.reduceReplicate, List.flatten_cons, List.flatten_nil, eq_self, permD, List.getD_cons_zero, List.getD_cons_succ, sIx21, List.take_succ_cons, List.take_zero, Nat.reduceLeDiff, and_self, decide_true, decide_false, Bool.not_true, Bool.not_false]
  exact hQ
theorem h18 (m : Nat) (c r c' r' : Rat) (W : Ce) (Q : D → Ce → Prop) (b1 : Bd 500 c) (b2 : Bd 500 r) (b3 : Bd 500 c') (b4 : Bd 500 r') (p : 0 ≤ r) (p' : 0 ≤ r') (hQ : Q (dsc (c + c') (r + r')) W) : wpC fs cs (m + 7) 18 [dsc c r, dsc c' r'] W Q := by
  refine wpC_step (f := f18) rfl rfl ?_
  simp only [f18, ↓w_for, ↓w_lc, b_add, b_addT, b_addL, b_sub, b_mul, b_mulL, b_mulT, b_fdiv, b_mod, b_pow, c_lt, c_le, c_gt, c_ge, c_eq, c_ne, c_eqS, c_neS, c_eq_tup, c_ne_tup, c_eq_lst, c_ne_lst, c_eq_bl, c_ne_bl, c_inT, c_ninT, i_int, i_intB, i_abs, i_dm, i_len_tup, i_len_lst, i_len_scr, i_max, i_min, i_gcd, i_isqrt, i_tuple1_tup, i_tuple1_lst, i_list1_tup, i_list1_lst, i_all, i_any, i_sum, i_repr_tup, i_repr_lst, i_repr_bl, i_repr_int, y_bl, y_int, y_str, y_tup, y_lst, y_non, it_tup, it_lst, it_scr, t_bl, t_int, t_tup, t_lst, t_non, w_cons, w_nil, wpS, wpE, wpEs, wpG, wpGs, wpI, wpT, startD, nb_fr, view_fr, it_fr, nb_int, nb_tup, nb_bl, nb_str, nb_lst, nb_scr, nb_non, nb_cell, nbs, g_name, g_tup, gsets, wipeD, noOw, itOk, view_int, view_tup, view_bl, view_str, view_lst, view_scr, view_non, at0, at1, at2, at3, ix0, ix1, ix2, tgN, List.map_cons, List.map_nil, List.append_nil, List.nil_append, List.cons_append, List.length_cons, List.length_nil, List.replicate_zero, List.replicate_succ, List.getElem?_cons_zero, List.getElem?_cons_succ, List.set_cons_zero, List.set_cons_succ, List.all_cons, List.all_nil, Bool.and_true, Bool.true_and, Nat.sub_self, Nat.add_sub_cancel_left, zeroNat, if_true, reduceCtorEq, true_and, and_true, ite_true, ite_false, Bool.false_eq_true, if_false, Nat.reduceAdd, Nat.reduceSub, Nat.reduceLT, Nat.zero_add, List.all, Bool.and_self, Int.reduceToNat, List.reduceReplicate, List.flatten_cons, List.flatten_nil, eq_self, permD, List.getD_cons_zero, List.getD_cons_succ, sIx21, List.take_succ_cons, List.take_zero, Nat.reduceLeDiff, and_self, decide_true, decide_false, Bool.not_true, Bool.not_false, dsc_nb]
  refine h15 m c r W _ p ?_
  refine rest_go ?_
  simp only [↓w_for, ↓w_lc, b_add, b_addT, b_addL, b_sub, b_mul, b_mulL, b_mulT, b_fdiv, b_mod, b_pow, c_lt, c_le, c_gt, c_ge, c_eq, c_ne, c_eqS, c_neS, c_eq_tup, c_ne_tup, c_eq_lst, c_ne_lst, c_eq_bl, c_ne_bl, c_inT, c_ninT, i_int, i_intB, i_abs, i_dm, i_len_tup, i_len_lst, i_len_scr, i_max, i_min, i_gcd, i_isqrt, i_tuple1_tup, i_tuple1_lst, i_list1_tup, i_list1_lst, i_all, i_any, i_sum, i_repr_tup, i_repr_lst, i_repr_bl, i_repr_int, y_bl, y_int, y_str, y_tup, y_lst, y_non, it_tup, it_lst, it_scr, t_bl, t_int, t_tup, t_lst, t_non, w_cons, w_nil, wpS, wpE, wpEs, wpG, wpGs, wpI, wpT, startD, nb_fr, view_fr, it_fr, nb_int, nb_tup, nb_bl, nb_str, nb_lst, nb_scr, nb_non, nb_cell, nbs, g_name, g_tup, gsets, wipeD, noOw, itOk, view_int, view_tup, view_bl, view_str, view_lst, view_scr, view_non, at0, at1, at2, at3, ix0, ix1, ix2, tgN, List.map_cons, List.map_nil, List.append_nil, List.nil_append, List.cons_append, List.length_cons, List.length_nil, List.replicate_zero, List.replicate_succ, List.getElem?_cons_zero, List.getElem?_cons_succ, List.set_cons_zero, List.set_cons_succ, List.all_cons, List.all_nil, Bool.and_true, Bool.true_and, Nat.sub_self, Nat.add_sub_cancel_left, zeroNat, if_true, reduceCtorEq, true_and, and_true, ite_true, ite_false, Bool.false_eq_true, if_false, Nat.reduceAdd, Nat.reduceSub, Nat.reduceLT, Nat.zero_add, List.all, Bool.and_self, Int.reduceToNat, List.reduceReplicate, List.flatten_cons, List.flatten_nil, eq_self, permD, List.getD_cons_zero, List.getD_cons_succ, sIx21, List.take_succ_cons, List.take_zero, Nat.reduceLeDiff, and_self, decide_true, decide_false, Bool.not_true, Bool.not_false, dsc_nb]
  refine h15 m c' r' W _ p' ?_
  refine rest_go ?_
  simp only [↓w_for, ↓w_lc, b_add, b_addT, b_addL, b_sub, b_mul, b_mulL, b_mulT, b_fdiv, b_mod, b_pow, c_lt, c_le, c_gt, c_ge, c_eq, c_ne, c_eqS, c_neS, c_eq_tup, c_ne_tup, c_eq_lst, c_ne_lst, c_eq_bl, c_ne_bl, c_inT, c_ninT, i_int, i_intB, i_abs, i_dm, i_len_tup, i_len_lst, i_len_scr, i_max, i_min, i_gcd, i_isqrt, i_tuple1_tup, i_tuple1_lst, i_list1_tup, i_list1_lst, i_all, i_any, i_sum, i_repr_tup, i_repr_lst, i_repr_bl, i_repr_int, y_bl, y_int, y_str, y_tup, y_lst, y_non, it_tup, it_lst, it_scr, t_bl, t_int, t_tup, t_lst, t_non, w_cons, w_nil, wpS, wpE, wpEs, wpG, wpGs, wpI, wpT, startD, nb_fr, view_fr, it_fr, nb_int, nb_tup, nb_bl, nb_str, nb_lst, nb_scr, nb_non, nb_cell, nbs, g_name, g_tup, gsets, wipeD, noOw, itOk, view_int, view_tup, view_bl, view_str, view_lst, view_scr, view_non, at0, at1, at2, at3, ix0, ix1, ix2, tgN, List.map_cons, List.map_nil, List.append_nil, List.nil_append, List.cons_append, List.length_cons, List.length_nil, List.replicate_zero, List.replicate_succ, List.getElem?_cons_zero, List.getElem?_cons_succ, List.set_cons_zero, List.set_cons_succ, List.all_cons, List.all_nil, Bool.and_true, Bool.true_and, Nat.sub_self, Nat.add_sub_cancel_left, zeroNat, if_true, reduceCtorEq, true_and, and_true, ite_true, ite_false, Bool.false_eq_true, if_false, Nat.reduceAdd, Nat.reduceSub, Nat.reduceLT, Nat.zero_add, List.all, Bool.and_self, Int.reduceToNat, List.reduceReplicate, List.flatten_cons, List.flatten_nil, eq_self, permD, List.getD_cons_zero, List.getD_cons_succ, sIx21, List.take_succ_cons, List.take_zero, Nat.reduceLeDiff, and_self, decide_true, decide_false, Bool.not_true, Bool.not_false, dsc_nb, dsc_view, dsc_it]
  refine h7 (m + 2) c c' 500 500 W _ b1 b3 (by decide) ?_
  simp only [↓w_for, ↓w_lc, b_add, b_addT, b_addL, b_sub, b_mul, b_mulL, b_mulT, b_fdiv, b_mod, b_pow, c_lt, c_le, c_gt, c_ge, c_eq, c_ne, c_eqS, c_neS, c_eq_tup, c_ne_tup, c_eq_lst, c_ne_lst, c_eq_bl, c_ne_bl, c_inT, c_ninT, i_int, i_intB, i_abs, i_dm, i_len_tup, i_len_lst, i_len_scr, i_max, i_min, i_gcd, i_isqrt, i_tuple1_tup, i_tuple1_lst, i_list1_tup, i_list1_lst, i_all, i_any, i_sum, i_repr_tup, i_repr_lst, i_repr_bl, i_repr_int, y_bl, y_int, y_str, y_tup, y_lst, y_non, it_tup, it_lst, it_scr, t_bl, t_int, t_tup, t_lst, t_non, w_cons, w_nil, wpS, wpE, wpEs, wpG, wpGs, wpI, wpT, startD, nb_fr, view_fr, it_fr, nb_int, nb_tup, nb_bl, nb_str, nb_lst, nb_scr, nb_non, nb_cell, nbs, g_name, g_tup, gsets, wipeD, noOw, itOk, view_int, view_tup, view_bl, view_str, view_lst, view_scr, view_non, at0, at1, at2, at3, ix0, ix1, ix2, tgN, List.map_cons, List.map_nil, List.append_nil, List.nil_append, List.cons_append, List.length_cons, List.length_nil, List.replicate_zero, List.replicate_succ, List.getElem?_cons_zero, List.getElem?_cons_succ, List.set_cons_zero, List.set_cons_succ, List.all_cons, List.all_nil, Bool.and_true, Bool.true_and, Nat.sub_self, Nat.add_sub_cancel_left, zeroNat, if_true, reduceCtorEq, true_and, and_true, ite_true, ite_false, Bool.false_eq_true, if_false, Nat.reduceAdd, Nat.reduceSub, Nat.reduceLT, Nat.zero_add, List.all, Bool.and_self, Int.reduceToNat, List.reduceReplicate, List.flatten_cons, List.flatten_nil, eq_self, permD, List.getD_cons_zero, List.getD_cons_succ, sIx21, List.take_succ_cons, List.take_zero, Nat.reduceLeDiff, and_self, decide_true, decide_false, Bool.not_true, Bool.not_false, dsc_nb, dsc_view, dsc_it]
  refine h7 (m + 2) r r' 500 500 W _ b2 b4 (by decide) ?_
  simp only [↓w_for, ↓w_lc, b_add, b_addT, b_addL, b_sub, b_mul, b_mulL, b_mulT, b_fdiv, b_mod, b_pow, c_lt, c_le, c_gt, c_ge, c_eq, c_ne, c_eqS, c_neS, c_eq_tup, c_ne_tup, c_eq_lst, c_ne_lst, c_eq_bl, c_ne_bl, c_inT, c_ninT, i_int, i_intB, i_abs, i_dm, i_len_tup, i_len_lst, i_len_scr, i_max, i_min, i_gcd, i_isqrt, i_tuple1_tup, i_tuple1_lst, i_list1_tup, i_list1_lst, i_all, i_any, i_sum, i_repr_tup, i_repr_lst, i_repr_bl, i_repr_int, y_bl, y_int, y_str, y_tup, y_lst, y_non, it_tup, it_lst, it_scr, t_bl, t_int, t_tup, t_lst, t_non, w_cons, w_nil, wpS, wpE, wpEs, wpG, wpGs, wpI, wpT, startD, nb_fr, view_fr, it_fr, nb_int, nb_tup, nb_bl, nb_str, nb_lst, nb_scr, nb_non, nb_cell, nbs, g_name, g_tup, gsets, wipeD, noOw, itOk, view_int, view_tup, view_bl, view_str, view_lst, view_scr, view_non, at0, at1, at2, at3, ix0, ix1, ix2, tgN, List.map_cons, List.map_nil, List.append_nil, List.nil_append, List.cons_append, List.length_cons, List.length_nil, List.replicate_zero, List.replicate_succ, List.getElem?_cons_zero, List.getElem?_cons_succ, List.set_cons_zero, List.set_cons_succ, List.all_cons, List.all_nil, Bool.and_true, Bool.true_and, Nat.sub_self, Nat.add_sub_cancel_left, zeroNat, if_true, reduceCtorEq, true_and, and_true, ite_true, ite_false, Bool.false_eq_true, if_false, Nat.reduceAdd, Nat.reduceSub, Nat.reduceLT, Nat.zero_add, List.all, Bool.and_self, Int.reduceToNat, List.reduceReplicate, List.flatten_cons, List.flatten_nil, eq_self, permD, List.getD_cons_zero, List.getD_cons_succ, sIx21, List.take_succ_cons, List.take_zero, Nat.reduceLeDiff, and_self, decide_true, decide_false, Bool.not_true, Bool.not_false]
  exact ⟨by decide, hQ⟩
theorem h19 (m : Nat) (c r q : Rat) (W : Ce) (Q : D → Ce → Prop) (b1 : Bd 500 c) (b2 : Bd 500 r) (b3 : Bd 500 q) (p : 0 ≤ r) (hQ : Q (dsc (q * c) (absR q * r)) W) : wpC fs cs (m + 7) 19 [dsc c r, fr q] W Q := by
  refine wpC_step (f := f19) rfl rfl ?_
  simp only [f19, ↓w_for, ↓w_lc, b_add, b_addT, b_addL, b_sub, b_mul, b_mulL, b_mulT, b_fdiv, b_mod, b_pow, c_lt, c_le, c_gt, c_ge, c_eq, c_ne, c_eqS, c_neS, c_eq_tup, c_ne_tup, c_eq_lst, c_ne_lst, c_eq_bl, c_ne_bl, c_inT, c_ninT, i_int, i_intB, i_abs, i_dm, i_len_tup, i_len_lst, i_len_scr, i_max, i_min, i_gcd, i_isqrt, i_tuple1_tup, i_tuple1_lst, i_list1_tup, i_list1_lst, i_all, i_any, i_sum, i_repr_tup, i_repr_lst, i_repr_bl, i_repr_int, y_bl, y_int, y_str, y_tup, y_lst, y_non, it_tup, it_lst, it_scr, t_bl, t_int, t_tup, t_lst, t_non, w_cons, w_nil, wpS, wpE, wpEs, wpG, wpGs, wpI, wpT, startD, nb_fr, view_fr, it_fr, nb_int, nb_tup, nb_bl, nb_str, nb_lst, nb_scr, nb_non, nb_cell, nbs, g_name, g_tup, gsets, wipeD, noOw, itOk, view_int, view_tup, view_bl, view_str, view_lst, view_scr, view_non, at0, at1, at2, at3, ix0, ix1, ix2, tgN, List.map_cons, List.map_nil, List.append_nil, List.nil_append, List.cons_append, List.length_cons, List.length_nil, List.replicate_zero, List.replicate_succ, List.getElem?_cons_zero, List.getElem?_cons_succ, List.set_cons_zero, List.set_cons_succ, List.all_cons, List.all_nil, Bool.and_true, Bool.true_and, Nat.sub_self, Nat.add_sub_cancel_left, zeroNat, if_true, reduceCtorEq, true_and, and_true, ite_true, ite_false, Bool.false_eq_true, if_false, Nat.reduceAdd, Nat.reduceSub, Nat.reduceLT, Nat.zero_add, List.all, Bool.and_self, Int.reduceToNat, List.reduceReplicate, List.flatten_cons, List.flatten_nil, eq_self, permD, List.getD_cons_zero, List.getD_cons_succ, sIx21, List.take_succ_cons, List.take_zero, Nat.reduceLeDiff, and_self, decide_true, decide_false, Bool.not_true, Bool.not_false, dsc_nb]
  refine h15 m c r W _ p ?_
  refine rest_go ?_
  simp only [↓w_for, ↓w_lc, b_add, b_addT, b_addL, b_sub, b_mul, b_mulL, b_mulT, b_fdiv, b_mod, b_pow, c_lt, c_le, c_gt, c_ge, c_eq, c_ne, c_eqS, c_neS, c_eq_tup, c_ne_tup, c_eq_lst, c_ne_lst, c_eq_bl, c_ne_bl, c_inT, c_ninT, i_int, i_intB, i_abs, i_dm, i_len_tup, i_len_lst, i_len_scr, i_max, i_min, i_gcd, i_isqrt, i_tuple1_tup, i_tuple1_lst, i_list1_tup, i_list1_lst, i_all, i_any, i_sum, i_repr_tup, i_repr_lst, i_repr_bl, i_repr_int, y_bl, y_int, y_str, y_tup, y_lst, y_non, it_tup, it_lst, it_scr, t_bl, t_int, t_tup, t_lst, t_non, w_cons, w_nil, wpS, wpE, wpEs, wpG, wpGs, wpI, wpT, startD, nb_fr, view_fr, it_fr, nb_int, nb_tup, nb_bl, nb_str, nb_lst, nb_scr, nb_non, nb_cell, nbs, g_name, g_tup, gsets, wipeD, noOw, itOk, view_int, view_tup, view_bl, view_str, view_lst, view_scr, view_non, at0, at1, at2, at3, ix0, ix1, ix2, tgN, List.map_cons, List.map_nil, List.append_nil, List.nil_append, List.cons_append, List.length_cons, List.length_nil, List.replicate_zero, List.replicate_succ, List.getElem?_cons_zero, List.getElem?_cons_succ, List.set_cons_zero, List.set_cons_succ, List.all_cons, List.all_nil, Bool.and_true, Bool.true_and, Nat.sub_self, Nat.add_sub_cancel_left, zeroNat, if_true, reduceCtorEq, true_and, and_true, ite_true, ite_false, Bool.false_eq_true, if_false, Nat.reduceAdd, Nat.reduceSub, Nat.reduceLT, Nat.zero_add, List.all, Bool.and_self, Int.reduceToNat, List.reduceReplicate, List.flatten_cons, List.flatten_nil, eq_self, permD, List.getD_cons_zero, List.getD_cons_succ, sIx21, List.take_succ_cons, List.take_zero, Nat.reduceLeDiff, and_self, decide_true, decide_false, Bool.not_true, Bool.not_false, dsc_nb]
  refine h12 (m + 2) q W _ ?_
  refine rest_go ?_
  simp only [↓w_for, ↓w_lc, b_add, b_addT, b_addL, b_sub, b_mul, b_mulL, b_mulT, b_fdiv, b_mod, b_pow, c_lt, c_le, c_gt, c_ge, c_eq, c_ne, c_eqS, c_neS, c_eq_tup, c_ne_tup, c_eq_lst, c_ne_lst, c_eq_bl, c_ne_bl, c_inT, c_ninT, i_int, i_intB, i_abs, i_dm, i_len_tup, i_len_lst, i_len_scr, i_max, i_min, i_gcd, i_isqrt, i_tuple1_tup, i_tuple1_lst, i_list1_tup, i_list1_lst, i_all, i_any, i_sum, i_repr_tup, i_repr_lst, i_repr_bl, i_repr_int, y_bl, y_int, y_str, y_tup, y_lst, y_non, it_tup, it_lst, it_scr, t_bl, t_int, t_tup, t_lst, t_non, w_cons, w_nil, wpS, wpE, wpEs, wpG, wpGs, wpI, wpT, startD, nb_fr, view_fr, it_fr, nb_int, nb_tup, nb_bl, nb_str, nb_lst, nb_scr, nb_non, nb_cell, nbs, g_name, g_tup, gsets, wipeD, noOw, itOk, view_int, view_tup, view_bl, view_str, view_lst, view_scr, view_non, at0, at1, at2, at3, ix0, ix1, ix2, tgN, List.map_cons, List.map_nil, List.append_nil, List.nil_append, List.cons_append, List.length_cons, List.length_nil, List.replicate_zero, List.replicate_succ, List.getElem?_cons_zero, List.getElem?_cons_succ, List.set_cons_zero, List.set_cons_succ, List.all_cons, List.all_nil, Bool.and_true, Bool.true_and, Nat.sub_self, Nat.add_sub_cancel_left, zeroNat, if_true, reduceCtorEq, true_and, and_true, ite_true, ite_false, Bool.false_eq_true, if_false, Nat.reduceAdd, Nat.reduceSub, Nat.reduceLT, Nat.zero_add, List.all, Bool.and_self, Int.reduceToNat, List.reduceReplicate, List.flatten_cons, List.flatten_nil, eq_self, permD, List.getD_cons_zero, List.getD_cons_succ, sIx21, List.take_succ_cons, List.take_zero, Nat.reduceLeDiff, and_self, decide_true, decide_false, Bool.not_true, Bool.not_false, dsc_nb, dsc_view, dsc_it]
  refine h9 (m + 2) q c 500 500 W _ b3 b1 (by decide) ?_
  simp only [↓w_for, ↓w_lc, b_add, b_addT, b_addL, b_sub, b_mul, b_mulL, b_mulT, b_fdiv, b_mod, b_pow, c_lt, c_le, c_gt, c_ge, c_eq, c_ne, c_eqS, c_neS, c_eq_tup, c_ne_tup, c_eq_lst, c_ne_lst, c_eq_bl, c_ne_bl, c_inT, c_ninT, i_int, i_intB, i_abs, i_dm, i_len_tup, i_len_lst, i_len_scr, i_max, i_min, i_gcd, i_isqrt, i_tuple1_tup, i_tuple1_lst, i_list1_tup, i_list1_lst, i_all, i_any, i_sum, i_repr_tup, i_repr_lst, i_repr_bl, i_repr_int, y_bl, y_int, y_str, y_tup, y_lst, y_non, it_tup, it_lst, it_scr, t_bl, t_int, t_tup, t_lst, t_non, w_cons, w_nil, wpS, wpE, wpEs, wpG, wpGs, wpI, wpT, startD, nb_fr, view_fr, it_fr, nb_int, nb_tup, nb_bl, nb_str, nb_lst, nb_scr, nb_non, nb_cell, nbs, g_name, g_tup, gsets, wipeD, noOw, itOk, view_int, view_tup, view_bl, view_str, view_lst, view_scr, view_non, at0, at1, at2, at3, ix0, ix1, ix2, tgN, List.map_cons, List.map_nil, List.append_nil, List.nil_append, List.cons_append, List.length_cons, List.length_nil, List.replicate_zero, List.replicate_succ, List.getElem?_cons_zero, List.getElem?_cons_succ, List.set_cons_zero, List.set_cons_succ, List.all_cons, List.all_nil, Bool.and_true, Bool.true_and, Nat.sub_self, Nat.add_sub_cancel_left, zeroNat, if_true, reduceCtorEq, true_and, and_true, ite_true, ite_false, Bool.false_eq_true, if_false, Nat.reduceAdd, Nat.reduceSub, Nat.reduceLT, Nat.zero_add, List.all, Bool.and_self, Int.reduceToNat, List.reduceReplicate, List.flatten_cons, List.flatten_nil, eq_self, permD, List.getD_cons_zero, List.getD_cons_succ, sIx21, List.take_succ_cons, List.take_zero, Nat.reduceLeDiff, and_self, decide_true, decide_false, Bool.not_true, Bool.not_false, dsc_nb, dsc_view, dsc_it]
  refine h10 (m + 5) q W _ ?_
  simp only [↓w_for, ↓w_lc, b_add, b_addT, b_addL, b_sub, b_mul, b_mulL, b_mulT, b_fdiv, b_mod, b_pow, c_lt, c_le, c_gt, c_ge, c_eq, c_ne, c_eqS, c_neS, c_eq_tup, c_ne_tup, c_eq_lst, c_ne_lst, c_eq_bl, c_ne_bl, c_inT, c_ninT, i_int, i_intB, i_abs, i_dm, i_len_tup, i_len_lst, i_len_scr, i_max, i_min, i_gcd, i_isqrt, i_tuple1_tup, i_tuple1_lst, i_list1_tup, i_list1_lst, i_all, i_any, i_sum, i_repr_tup, i_repr_lst, i_repr_bl, i_repr_int, y_bl, y_int, y_str, y_tup, y_lst, y_non, it_tup, it_lst, it_scr, t_bl, t_int, t_tup, t_lst, t_non, w_cons, w_nil, wpS, wpE, wpEs, wpG, wpGs, wpI, wpT, startD, nb_fr, view_fr, it_fr, nb_int, nb_tup, nb_bl, nb_str, nb_lst, nb_scr, nb_non, nb_cell, nbs, g_name, g_tup, gsets, wipeD, noOw, itOk, view_int, view_tup, view_bl, view_str, view_lst, view_scr, view_non, at0, at1, at2, at3, ix0, ix1, ix2, tgN, List.map_cons, List.map_nil, List.append_nil, List.nil_append, List.cons_append, List.length_cons, List.length_nil, List.replicate_zero, List.replicate_succ, List.getElem?_cons_zero, List.getElem?_cons_succ, List.set_cons_zero, List.set_cons_succ, List.all_cons, List.all_nil, Bool.and_true, Bool.true_and, Nat.sub_self, Nat.add_sub_cancel_left, zeroNat, if_true, reduceCtorEq, true_and, and_true, ite_true, ite_false, Bool.false_eq_true, if_false, Nat.reduceAdd, Nat.reduceSub, Nat.reduceLT, Nat.zero_add, List.all, Bool.and_self, Int.reduceToNat, List.reduceReplicate, List.flatten_cons, List.flatten_nil, eq_self, permD, List.getD_cons_zero, List.getD_cons_succ, sIx21, List.take_succ_cons, List.take_zero, Nat.reduceLeDiff, and_self, decide_true, decide_false, Bool.not_true, Bool.not_false, dsc_nb, dsc_view, dsc_it]
  refine h9 (m + 2) (absR q) r 500 500 W _ b3.abs b2 (by decide) ?_
  simp only [↓w_for, ↓w_lc, b_add, b_addT, b_addL, b_sub, b_mul, b_mulL, b_mulT, b_fdiv, b_mod, b_pow, c_lt, c_le, c_gt, c_ge, c_eq, c_ne, c_eqS, c_neS, c_eq_tup, c_ne_tup, c_eq_lst, c_ne_lst, c_eq_bl, c_ne_bl, c_inT, c_ninT, i_int, i_intB, i_abs, i_dm, i_len_tup, i_len_lst, i_len_scr, i_max, i_min, i_gcd, i_isqrt, i_tuple1_tup, i_tuple1_lst, i_list1_tup, i_list1_lst, i_all, i_any, i_sum, i_repr_tup, i_repr_lst, i_repr_bl, i_repr_int, y_bl, y_int, y_str, y_tup, y_lst, y_non, it_tup, it_lst, it_scr, t_bl, t_int, t_tup, t_lst, t_non, w_cons, w_nil, wpS, wpE, wpEs, wpG, wpGs, wpI, wpT, startD, nb_fr, view_fr, it_fr, nb_int, nb_tup, nb_bl, nb_str, nb_lst, nb_scr, nb_non, nb_cell, nbs, g_name, g_tup, gsets, wipeD, noOw, itOk, view_int, view_tup, view_bl, view_str, view_lst, view_scr, view_non, at0, at1, at2, at3, ix0, ix1, ix2, tgN, List.map_cons, List.map_nil, List.append_nil, List.nil_append, List.cons_append, List.length_cons, List.length_nil, List.replicate_zero, List.replicate_succ, List.getElem?_cons_zero, List.getElem?_cons_succ, List.set_cons_zero, List.set_cons_succ, List.all_cons, List.all_nil, Bool.and_true, Bool.true_and, Nat.sub_self, Nat.add_sub_cancel_left, zeroNat, if_true, reduceCtorEq, true_and, and_true, ite_true, ite_false, Bool.false_eq_true, if_false, Nat.reduceAdd, Nat.reduceSub, Nat.reduceLT, Nat.zero_add, List.all, Bool.and_self, Int.reduceToNat, List.reduceReplicate, List.flatten_cons, List.flatten_nil, eq_self, permD, List.getD_cons_zero, List.getD_cons_succ, sIx21, List.take_succ_cons, List.take_zero, Nat.reduceLeDiff, and_self, decide_true, decide_false, Bool.not_true, Bool.not_false]
  exact ⟨by decide, hQ⟩
end K20

set_option Elab.async false
set_option linter.all false
set_option maxRecDepth 100000
set_option maxHeartbeats 0
namespace K20
open PySem L2 Bn
theorem h20 : SWell fs cs 1 20 := lwell_ok (a := 70003) (b := 6211) (by unfold Sz; decide) (by unfold Sz; decide) rfl
theorem h21 : SPull fs cs 1 21 := lpull_ok rfl
theorem h22 : SPick fs cs 2 22 := lpick_ok h21 rfl
theorem h23 : SCom fs cs 1 23 := lcommon_ok rfl
theorem h24 : SRatio fs cs 2 24 := lratio_ok h23 rfl
theorem h25 : SR2 fs cs 3 25 (· + ·) := plus_ok h24 rfl
theorem h26 : SR2 fs cs 3 26 (· - ·) := minus_ok h24 rfl
theorem h27 : SR2 fs cs 3 27 (· * ·) := times_ok h24 rfl
theorem h28 : SBey fs cs 1 28 := lbeyond_ok rfl
theorem h29 : SSize fs cs 1 29 := size_ok rfl
theorem h30 : SNum fs cs 3 30 := lnumber_ok (n := 2) (fun m => h21 (m + 1)) h24 rfl
theorem h31 : SRim fs cs 3 31 := lrim_ok (n := 2) (a := 4) (b := 9) (c := 4) (by decide) (by decide) (by decide) (by decide) (by decide) (by decide) (fun m => h21 (m + 1)) h24 rfl
theorem frc {a : Int} {d : Nat} (h : d ≠ 0) (r : a.natAbs.Coprime d) : D.tup [.int a, .int d] = fr ⟨a, d, h, r⟩ := rfl
theorem divInt_nonneg {a b : Int} (ha : 0 ≤ a) (hb : 0 < b) : 0 ≤ Rat.divInt a b := by
  rw [nonneg_iff, num_pos hb]
  exact Int.fdiv_nonneg ha (Int.natCast_nonneg _)
theorem h32 (m k c : Nat) (W : Ce) (Q : D → Ce → Prop) (hw : Wl k (c + 4) W) (hQ : ∀ (u r : Rat) (W' : Ce), Bd 24 u → Bd 24 r → 0 ≤ r → Wl k c W' → Q (dsc u r) W') : wpC fs cs (m + 4) 32 [.cell k] W Q := by
  refine wpC_step (f := f32) rfl rfl ?_
  simp only [f32, ↓w_for, ↓w_lc, b_add, b_addT, b_addL, b_sub, b_mul, b_mulL, b_mulT, b_fdiv, b_mod, b_pow, c_lt, c_le, c_gt, c_ge, c_eq, c_ne, c_eqS, c_neS, c_eq_tup, c_ne_tup, c_eq_lst, c_ne_lst, c_eq_bl, c_ne_bl, c_inT, c_ninT, i_int, i_intB, i_abs, i_dm, i_len_tup, i_len_lst, i_len_scr, i_max, i_min, i_gcd, i_isqrt, i_tuple1_tup, i_tuple1_lst, i_list1_tup, i_list1_lst, i_all, i_any, i_sum, i_repr_tup, i_repr_lst, i_repr_bl, i_repr_int, y_bl, y_int, y_str, y_tup, y_lst, y_non, it_tup, it_lst, it_scr, t_bl, t_int, t_tup, t_lst, t_non, w_cons, w_nil, wpS, wpE, wpEs, wpG, wpGs, wpI, wpT, startD, nb_fr, view_fr, it_fr, nb_int, nb_tup, nb_bl, nb_str, nb_lst, nb_scr, nb_non, nb_cell, nbs, g_name, g_tup, gsets, wipeD, noOw, itOk, view_int, view_tup, view_bl, view_str, view_lst, view_scr, view_non, at0, at1, at2, at3, ix0, ix1, ix2, tgN, List.map_cons, List.map_nil, List.append_nil, List.nil_append, List.cons_append, List.length_cons, List.length_nil, List.replicate_zero, List.replicate_succ, List.getElem?_cons_zero, List.getElem?_cons_succ, List.set_cons_zero, List.set_cons_succ, List.all_cons, List.all_nil, Bool.and_true, Bool.true_and, Nat.sub_self, Nat.add_sub_cancel_left, zeroNat, if_true, reduceCtorEq, true_and, and_true, ite_true, ite_false, Bool.false_eq_true, if_false, Nat.reduceAdd, Nat.reduceSub, Nat.reduceLT, Nat.zero_add, List.all, Bool.and_self, Int.reduceToNat, List.reduceReplicate, List.flatten_cons, List.flatten_nil, eq_self, permD, List.getD_cons_zero, List.getD_cons_succ, sIx21, List.take_succ_cons, List.take_zero, Nat.reduceLeDiff, and_self, decide_true, decide_false, Bool.not_true, Bool.not_false]
  refine h30 m k (c + 2) 4 3 W _ hw (by decide) (by decide) (by decide) (by decide) (fun u W1 bu hw1 => ?_)
  simp only [↓w_for, ↓w_lc, b_add, b_addT, b_addL, b_sub, b_mul, b_mulL, b_mulT, b_fdiv, b_mod, b_pow, c_lt, c_le, c_gt, c_ge, c_eq, c_ne, c_eqS, c_neS, c_eq_tup, c_ne_tup, c_eq_lst, c_ne_lst, c_eq_bl, c_ne_bl, c_inT, c_ninT, i_int, i_intB, i_abs, i_dm, i_len_tup, i_len_lst, i_len_scr, i_max, i_min, i_gcd, i_isqrt, i_tuple1_tup, i_tuple1_lst, i_list1_tup, i_list1_lst, i_all, i_any, i_sum, i_repr_tup, i_repr_lst, i_repr_bl, i_repr_int, y_bl, y_int, y_str, y_tup, y_lst, y_non, it_tup, it_lst, it_scr, t_bl, t_int, t_tup, t_lst, t_non, w_cons, w_nil, wpS, wpE, wpEs, wpG, wpGs, wpI, wpT, startD, nb_fr, view_fr, it_fr, nb_int, nb_tup, nb_bl, nb_str, nb_lst, nb_scr, nb_non, nb_cell, nbs, g_name, g_tup, gsets, wipeD, noOw, itOk, view_int, view_tup, view_bl, view_str, view_lst, view_scr, view_non, at0, at1, at2, at3, ix0, ix1, ix2, tgN, List.map_cons, List.map_nil, List.append_nil, List.nil_append, List.cons_append, List.length_cons, List.length_nil, List.replicate_zero, List.replicate_succ, List.getElem?_cons_zero, List.getElem?_cons_succ, List.set_cons_zero, List.set_cons_succ, List.all_cons, List.all_nil, Bool.and_true, Bool.true_and, Nat.sub_self, Nat.add_sub_cancel_left, zeroNat, if_true, reduceCtorEq, true_and, and_true, ite_true, ite_false, Bool.false_eq_true, if_false, Nat.reduceAdd, Nat.reduceSub, Nat.reduceLT, Nat.zero_add, List.all, Bool.and_self, Int.reduceToNat, List.reduceReplicate, List.flatten_cons, List.flatten_nil, eq_self, permD, List.getD_cons_zero, List.getD_cons_succ, sIx21, List.take_succ_cons, List.take_zero, Nat.reduceLeDiff, and_self, decide_true, decide_false, Bool.not_true, Bool.not_false]
  refine rest_go ?_
  simp only [↓w_for, ↓w_lc, b_add, b_addT, b_addL, b_sub, b_mul, b_mulL, b_mulT, b_fdiv, b_mod, b_pow, c_lt, c_le, c_gt, c_ge, c_eq, c_ne, c_eqS, c_neS, c_eq_tup, c_ne_tup, c_eq_lst, c_ne_lst, c_eq_bl, c_ne_bl, c_inT, c_ninT, i_int, i_intB, i_abs, i_dm, i_len_tup, i_len_lst, i_len_scr, i_max, i_min, i_gcd, i_isqrt, i_tuple1_tup, i_tuple1_lst, i_list1_tup, i_list1_lst, i_all, i_any, i_sum, i_repr_tup, i_repr_lst, i_repr_bl, i_repr_int, y_bl, y_int, y_str, y_tup, y_lst, y_non, it_tup, it_lst, it_scr, t_bl, t_int, t_tup, t_lst, t_non, w_cons, w_nil, wpS, wpE, wpEs, wpG, wpGs, wpI, wpT, startD, nb_fr, view_fr, it_fr, nb_int, nb_tup, nb_bl, nb_str, nb_lst, nb_scr, nb_non, nb_cell, nbs, g_name, g_tup, gsets, wipeD, noOw, itOk, view_int, view_tup, view_bl, view_str, view_lst, view_scr, view_non, at0, at1, at2, at3, ix0, ix1, ix2, tgN, List.map_cons, List.map_nil, List.append_nil, List.nil_append, List.cons_append, List.length_cons, List.length_nil, List.replicate_zero, List.replicate_succ, List.getElem?_cons_zero, List.getElem?_cons_succ, List.set_cons_zero, List.set_cons_succ, List.all_cons, List.all_nil, Bool.and_true, Bool.true_and, Nat.sub_self, Nat.add_sub_cancel_left, zeroNat, if_true, reduceCtorEq, true_and, and_true, ite_true, ite_false, Bool.false_eq_true, if_false, Nat.reduceAdd, Nat.reduceSub, Nat.reduceLT, Nat.zero_add, List.all, Bool.and_self, Int.reduceToNat, List.reduceReplicate, List.flatten_cons, List.flatten_nil, eq_self, permD, List.getD_cons_zero, List.getD_cons_succ, sIx21, List.take_succ_cons, List.take_zero, Nat.reduceLeDiff, and_self, decide_true, decide_false, Bool.not_true, Bool.not_false]
  refine h21 (m + 2) k (c + 1) 5 W1 _ hw1 (by decide) (by decide) (fun s W2 s1 s2 hw2 => ?_)
  simp only [↓w_for, ↓w_lc, b_add, b_addT, b_addL, b_sub, b_mul, b_mulL, b_mulT, b_fdiv, b_mod, b_pow, c_lt, c_le, c_gt, c_ge, c_eq, c_ne, c_eqS, c_neS, c_eq_tup, c_ne_tup, c_eq_lst, c_ne_lst, c_eq_bl, c_ne_bl, c_inT, c_ninT, i_int, i_intB, i_abs, i_dm, i_len_tup, i_len_lst, i_len_scr, i_max, i_min, i_gcd, i_isqrt, i_tuple1_tup, i_tuple1_lst, i_list1_tup, i_list1_lst, i_all, i_any, i_sum, i_repr_tup, i_repr_lst, i_repr_bl, i_repr_int, y_bl, y_int, y_str, y_tup, y_lst, y_non, it_tup, it_lst, it_scr, t_bl, t_int, t_tup, t_lst, t_non, w_cons, w_nil, wpS, wpE, wpEs, wpG, wpGs, wpI, wpT, startD, nb_fr, view_fr, it_fr, nb_int, nb_tup, nb_bl, nb_str, nb_lst, nb_scr, nb_non, nb_cell, nbs, g_name, g_tup, gsets, wipeD, noOw, itOk, view_int, view_tup, view_bl, view_str, view_lst, view_scr, view_non, at0, at1, at2, at3, ix0, ix1, ix2, tgN, List.map_cons, List.map_nil, List.append_nil, List.nil_append, List.cons_append, List.length_cons, List.length_nil, List.replicate_zero, List.replicate_succ, List.getElem?_cons_zero, List.getElem?_cons_succ, List.set_cons_zero, List.set_cons_succ, List.all_cons, List.all_nil, Bool.and_true, Bool.true_and, Nat.sub_self, Nat.add_sub_cancel_left, zeroNat, if_true, reduceCtorEq, true_and, and_true, ite_true, ite_false, Bool.false_eq_true, if_false, Nat.reduceAdd, Nat.reduceSub, Nat.reduceLT, Nat.zero_add, List.all, Bool.and_self, Int.reduceToNat, List.reduceReplicate, List.flatten_cons, List.flatten_nil, eq_self, permD, List.getD_cons_zero, List.getD_cons_succ, sIx21, List.take_succ_cons, List.take_zero, Nat.reduceLeDiff, and_self, decide_true, decide_false, Bool.not_true, Bool.not_false]
  refine rest_go ?_
  simp only [↓w_for, ↓w_lc, b_add, b_addT, b_addL, b_sub, b_mul, b_mulL, b_mulT, b_fdiv, b_mod, b_pow, c_lt, c_le, c_gt, c_ge, c_eq, c_ne, c_eqS, c_neS, c_eq_tup, c_ne_tup, c_eq_lst, c_ne_lst, c_eq_bl, c_ne_bl, c_inT, c_ninT, i_int, i_intB, i_abs, i_dm, i_len_tup, i_len_lst, i_len_scr, i_max, i_min, i_gcd, i_isqrt, i_tuple1_tup, i_tuple1_lst, i_list1_tup, i_list1_lst, i_all, i_any, i_sum, i_repr_tup, i_repr_lst, i_repr_bl, i_repr_int, y_bl, y_int, y_str, y_tup, y_lst, y_non, it_tup, it_lst, it_scr, t_bl, t_int, t_tup, t_lst, t_non, w_cons, w_nil, wpS, wpE, wpEs, wpG, wpGs, wpI, wpT, startD, nb_fr, view_fr, it_fr, nb_int, nb_tup, nb_bl, nb_str, nb_lst, nb_scr, nb_non, nb_cell, nbs, g_name, g_tup, gsets, wipeD, noOw, itOk, view_int, view_tup, view_bl, view_str, view_lst, view_scr, view_non, at0, at1, at2, at3, ix0, ix1, ix2, tgN, List.map_cons, List.map_nil, List.append_nil, List.nil_append, List.cons_append, List.length_cons, List.length_nil, List.replicate_zero, List.replicate_succ, List.getElem?_cons_zero, List.getElem?_cons_succ, List.set_cons_zero, List.set_cons_succ, List.all_cons, List.all_nil, Bool.and_true, Bool.true_and, Nat.sub_self, Nat.add_sub_cancel_left, zeroNat, if_true, reduceCtorEq, true_and, and_true, ite_true, ite_false, Bool.false_eq_true, if_false, Nat.reduceAdd, Nat.reduceSub, Nat.reduceLT, Nat.zero_add, List.all, Bool.and_self, Int.reduceToNat, List.reduceReplicate, List.flatten_cons, List.flatten_nil, eq_self, permD, List.getD_cons_zero, List.getD_cons_succ, sIx21, List.take_succ_cons, List.take_zero, Nat.reduceLeDiff, and_self, decide_true, decide_false, Bool.not_true, Bool.not_false]
  refine h21 (m + 2) k c 3 W2 _ hw2 (by decide) (by decide) (fun t W3 t1 t2 hw3 => ?_)
  simp only [↓w_for, ↓w_lc, b_add, b_addT, b_addL, b_sub, b_mul, b_mulL, b_mulT, b_fdiv, b_mod, b_pow, c_lt, c_le, c_gt, c_ge, c_eq, c_ne, c_eqS, c_neS, c_eq_tup, c_ne_tup, c_eq_lst, c_ne_lst, c_eq_bl, c_ne_bl, c_inT, c_ninT, i_int, i_intB, i_abs, i_dm, i_len_tup, i_len_lst, i_len_scr, i_max, i_min, i_gcd, i_isqrt, i_tuple1_tup, i_tuple1_lst, i_list1_tup, i_list1_lst, i_all, i_any, i_sum, i_repr_tup, i_repr_lst, i_repr_bl, i_repr_int, y_bl, y_int, y_str, y_tup, y_lst, y_non, it_tup, it_lst, it_scr, t_bl, t_int, t_tup, t_lst, t_non, w_cons, w_nil, wpS, wpE, wpEs, wpG, wpGs, wpI, wpT, startD, nb_fr, view_fr, it_fr, nb_int, nb_tup, nb_bl, nb_str, nb_lst, nb_scr, nb_non, nb_cell, nbs, g_name, g_tup, gsets, wipeD, noOw, itOk, view_int, view_tup, view_bl, view_str, view_lst, view_scr, view_non, at0, at1, at2, at3, ix0, ix1, ix2, tgN, List.map_cons, List.map_nil, List.append_nil, List.nil_append, List.cons_append, List.length_cons, List.length_nil, List.replicate_zero, List.replicate_succ, List.getElem?_cons_zero, List.getElem?_cons_succ, List.set_cons_zero, List.set_cons_succ, List.all_cons, List.all_nil, Bool.and_true, Bool.true_and, Nat.sub_self, Nat.add_sub_cancel_left, zeroNat, if_true, reduceCtorEq, true_and, and_true, ite_true, ite_false, Bool.false_eq_true, if_false, Nat.reduceAdd, Nat.reduceSub, Nat.reduceLT, Nat.zero_add, List.all, Bool.and_self, Int.reduceToNat, List.reduceReplicate, List.flatten_cons, List.flatten_nil, eq_self, permD, List.getD_cons_zero, List.getD_cons_succ, sIx21, List.take_succ_cons, List.take_zero, Nat.reduceLeDiff, and_self, decide_true, decide_false, Bool.not_true, Bool.not_false]
  have z1 : Sz 24 s := by unfold Sz; omega
  have z2 : Sz 24 (1 + t) := by unfold Sz; omega
  refine h24 (m + 1) s (1 + t) 24 W3 _ z1 z2 (by decide) (by omega) ?_
  simp only [↓w_for, ↓w_lc, b_add, b_addT, b_addL, b_sub, b_mul, b_mulL, b_mulT, b_fdiv, b_mod, b_pow, c_lt, c_le, c_gt, c_ge, c_eq, c_ne, c_eqS, c_neS, c_eq_tup, c_ne_tup, c_eq_lst, c_ne_lst, c_eq_bl, c_ne_bl, c_inT, c_ninT, i_int, i_intB, i_abs, i_dm, i_len_tup, i_len_lst, i_len_scr, i_max, i_min, i_gcd, i_isqrt, i_tuple1_tup, i_tuple1_lst, i_list1_tup, i_list1_lst, i_all, i_any, i_sum, i_repr_tup, i_repr_lst, i_repr_bl, i_repr_int, y_bl, y_int, y_str, y_tup, y_lst, y_non, it_tup, it_lst, it_scr, t_bl, t_int, t_tup, t_lst, t_non, w_cons, w_nil, wpS, wpE, wpEs, wpG, wpGs, wpI, wpT, startD, nb_fr, view_fr, it_fr, nb_int, nb_tup, nb_bl, nb_str, nb_lst, nb_scr, nb_non, nb_cell, nbs, g_name, g_tup, gsets, wipeD, noOw, itOk, view_int, view_tup, view_bl, view_str, view_lst, view_scr, view_non, at0, at1, at2, at3, ix0, ix1, ix2, tgN, List.map_cons, List.map_nil, List.append_nil, List.nil_append, List.cons_append, List.length_cons, List.length_nil, List.replicate_zero, List.replicate_succ, List.getElem?_cons_zero, List.getElem?_cons_succ, List.set_cons_zero, List.set_cons_succ, List.all_cons, List.all_nil, Bool.and_true, Bool.true_and, Nat.sub_self, Nat.add_sub_cancel_left, zeroNat, if_true, reduceCtorEq, true_and, and_true, ite_true, ite_false, Bool.false_eq_true, if_false, Nat.reduceAdd, Nat.reduceSub, Nat.reduceLT, Nat.zero_add, List.all, Bool.and_self, Int.reduceToNat, List.reduceReplicate, List.flatten_cons, List.flatten_nil, eq_self, permD, List.getD_cons_zero, List.getD_cons_succ, sIx21, List.take_succ_cons, List.take_zero, Nat.reduceLeDiff, and_self, decide_true, decide_false, Bool.not_true, Bool.not_false]
  exact ⟨by decide, hQ _ _ _ (bu.mono (by decide)) (divInt_sz z1 z2 (by omega)) (divInt_nonneg s1 (by omega)) hw3⟩
theorem h33 (m k c : Nat) (u r : Rat) (W : Ce) (Q : D → Ce → Prop) (bu : Bd 100 u) (br : Bd 100 r) (hw : Wl k (c + 3) W) (hQ : ∀ (u r : Rat) (W' : Ce), Bd 200 u → Bd 200 r → 0 ≤ r → Wl k c W' → Q (dsc u r) W') : wpC fs cs (m + 4) 33 [.cell k, dsc u r] W Q := by
  refine wpC_step (f := f33) rfl rfl ?_
  simp only [f33, ↓w_for, ↓w_lc, b_add, b_addT, b_addL, b_sub, b_mul, b_mulL, b_mulT, b_fdiv, b_mod, b_pow, c_lt, c_le, c_gt, c_ge, c_eq, c_ne, c_eqS, c_neS, c_eq_tup, c_ne_tup, c_eq_lst, c_ne_lst, c_eq_bl, c_ne_bl, c_inT, c_ninT, i_int, i_intB, i_abs, i_dm, i_len_tup, i_len_lst, i_len_scr, i_max, i_min, i_gcd, i_isqrt, i_tuple1_tup, i_tuple1_lst, i_list1_tup, i_list1_lst, i_all, i_any, i_sum, i_repr_tup, i_repr_lst, i_repr_bl, i_repr_int, y_bl, y_int, y_str, y_tup, y_lst, y_non, it_tup, it_lst, it_scr, t_bl, t_int, t_tup, t_lst, t_non, w_cons, w_nil, wpS, wpE, wpEs, wpG, wpGs, wpI, wpT, startD, nb_fr, view_fr, it_fr, nb_int, nb_tup, nb_bl, nb_str, nb_lst, nb_scr, nb_non, nb_cell, nbs, g_name, g_tup, gsets, wipeD, noOw, itOk, view_int, view_tup, view_bl, view_str, view_lst, view_scr, view_non, at0, at1, at2, at3, ix0, ix1, ix2, tgN, List.map_cons, List.map_nil, List.append_nil, List.nil_append, List.cons_append, List.length_cons, List.length_nil, List.replicate_zero, List.replicate_succ, List.getElem?_cons_zero, List.getElem?_cons_succ, List.set_cons_zero, List.set_cons_succ, List.all_cons, List.all_nil, Bool.and_true, Bool.true_and, Nat.sub_self, Nat.add_sub_cancel_left, zeroNat, if_true, reduceCtorEq, true_and, and_true, ite_true, ite_false, Bool.false_eq_true, if_false, Nat.reduceAdd, Nat.reduceSub, Nat.reduceLT, Nat.zero_add, List.all, Bool.and_self, Int.reduceToNat, List.reduceReplicate, List.flatten_cons, List.flatten_nil, eq_self, permD, List.getD_cons_zero, List.getD_cons_succ, sIx21, List.take_succ_cons, List.take_zero, Nat.reduceLeDiff, and_self, decide_true, decide_false, Bool.not_true, Bool.not_false, dsc_nb]
  refine h30 m k (c + 1) 3 3 W _ hw (by decide) (by decide) (by decide) (by decide) (fun v W1 bv hw1 => ?_)
  simp only [↓w_for, ↓w_lc, b_add, b_addT, b_addL, b_sub, b_mul, b_mulL, b_mulT, b_fdiv, b_mod, b_pow, c_lt, c_le, c_gt, c_ge, c_eq, c_ne, c_eqS, c_neS, c_eq_tup, c_ne_tup, c_eq_lst, c_ne_lst, c_eq_bl, c_ne_bl, c_inT, c_ninT, i_int, i_intB, i_abs, i_dm, i_len_tup, i_len_lst, i_len_scr, i_max, i_min, i_gcd, i_isqrt, i_tuple1_tup, i_tuple1_lst, i_list1_tup, i_list1_lst, i_all, i_any, i_sum, i_repr_tup, i_repr_lst, i_repr_bl, i_repr_int, y_bl, y_int, y_str, y_tup, y_lst, y_non, it_tup, it_lst, it_scr, t_bl, t_int, t_tup, t_lst, t_non, w_cons, w_nil, wpS, wpE, wpEs, wpG, wpGs, wpI, wpT, startD, nb_fr, view_fr, it_fr, nb_int, nb_tup, nb_bl, nb_str, nb_lst, nb_scr, nb_non, nb_cell, nbs, g_name, g_tup, gsets, wipeD, noOw, itOk, view_int, view_tup, view_bl, view_str, view_lst, view_scr, view_non, at0, at1, at2, at3, ix0, ix1, ix2, tgN, List.map_cons, List.map_nil, List.append_nil, List.nil_append, List.cons_append, List.length_cons, List.length_nil, List.replicate_zero, List.replicate_succ, List.getElem?_cons_zero, List.getElem?_cons_succ, List.set_cons_zero, List.set_cons_succ, List.all_cons, List.all_nil, Bool.and_true, Bool.true_and, Nat.sub_self, Nat.add_sub_cancel_left, zeroNat, if_true, reduceCtorEq, true_and, and_true, ite_true, ite_false, Bool.false_eq_true, if_false, Nat.reduceAdd, Nat.reduceSub, Nat.reduceLT, Nat.zero_add, List.all, Bool.and_self, Int.reduceToNat, List.reduceReplicate, List.flatten_cons, List.flatten_nil, eq_self, permD, List.getD_cons_zero, List.getD_cons_succ, sIx21, List.take_succ_cons, List.take_zero, Nat.reduceLeDiff, and_self, decide_true, decide_false, Bool.not_true, Bool.not_false]
  refine rest_go ?_
  simp only [↓w_for, ↓w_lc, b_add, b_addT, b_addL, b_sub, b_mul, b_mulL, b_mulT, b_fdiv, b_mod, b_pow, c_lt, c_le, c_gt, c_ge, c_eq, c_ne, c_eqS, c_neS, c_eq_tup, c_ne_tup, c_eq_lst, c_ne_lst, c_eq_bl, c_ne_bl, c_inT, c_ninT, i_int, i_intB, i_abs, i_dm, i_len_tup, i_len_lst, i_len_scr, i_max, i_min, i_gcd, i_isqrt, i_tuple1_tup, i_tuple1_lst, i_list1_tup, i_list1_lst, i_all, i_any, i_sum, i_repr_tup, i_repr_lst, i_repr_bl, i_repr_int, y_bl, y_int, y_str, y_tup, y_lst, y_non, it_tup, it_lst, it_scr, t_bl, t_int, t_tup, t_lst, t_non, w_cons, w_nil, wpS, wpE, wpEs, wpG, wpGs, wpI, wpT, startD, nb_fr, view_fr, it_fr, nb_int, nb_tup, nb_bl, nb_str, nb_lst, nb_scr, nb_non, nb_cell, nbs, g_name, g_tup, gsets, wipeD, noOw, itOk, view_int, view_tup, view_bl, view_str, view_lst, view_scr, view_non, at0, at1, at2, at3, ix0, ix1, ix2, tgN, List.map_cons, List.map_nil, List.append_nil, List.nil_append, List.cons_append, List.length_cons, List.length_nil, List.replicate_zero, List.replicate_succ, List.getElem?_cons_zero, List.getElem?_cons_succ, List.set_cons_zero, List.set_cons_succ, List.all_cons, List.all_nil, Bool.and_true, Bool.true_and, Nat.sub_self, Nat.add_sub_cancel_left, zeroNat, if_true, reduceCtorEq, true_and, and_true, ite_true, ite_false, Bool.false_eq_true, if_false, Nat.reduceAdd, Nat.reduceSub, Nat.reduceLT, Nat.zero_add, List.all, Bool.and_self, Int.reduceToNat, List.reduceReplicate, List.flatten_cons, List.flatten_nil, eq_self, permD, List.getD_cons_zero, List.getD_cons_succ, sIx21, List.take_succ_cons, List.take_zero, Nat.reduceLeDiff, and_self, decide_true, decide_false, Bool.not_true, Bool.not_false]
  refine ⟨by decide, by decide, by decide, by decide, by decide, by decide, ?_⟩
  refine h22 (m + 1) k c _ W1 _ hw1 (by simp) (by simp) (fun x hx => ?_) (fun x W2 hx hw2 => ?_)
  · simp only [List.mem_cons, List.not_mem_nil, or_false] at hx
    rcases hx with rfl | rfl | rfl | rfl | rfl <;> rfl
  have hx : ∃ q : Rat, x = fr q ∧ Bd 12 q := by
    simp only [List.mem_cons, List.not_mem_nil, or_false] at hx
    rcases hx with rfl | rfl | rfl | rfl | rfl
    · exact ⟨_, frc (d := 1) (by decide) (by decide), by constructor <;> (unfold Sz; decide)⟩
    · exact ⟨_, frc (d := 1) (by decide) (by decide), by constructor <;> (unfold Sz; decide)⟩
    · exact ⟨_, frc (d := 3) (by decide) (by decide), by constructor <;> (unfold Sz; decide)⟩
    · exact ⟨_, frc (d := 5) (by decide) (by decide), by constructor <;> (unfold Sz; decide)⟩
    · exact ⟨_, frc (d := 60) (by decide) (by decide), by constructor <;> (unfold Sz; decide)⟩
  obtain ⟨q, rfl, bq⟩ := hx
  simp only [↓w_for, ↓w_lc, b_add, b_addT, b_addL, b_sub, b_mul, b_mulL, b_mulT, b_fdiv, b_mod, b_pow, c_lt, c_le, c_gt, c_ge, c_eq, c_ne, c_eqS, c_neS, c_eq_tup, c_ne_tup, c_eq_lst, c_ne_lst, c_eq_bl, c_ne_bl, c_inT, c_ninT, i_int, i_intB, i_abs, i_dm, i_len_tup, i_len_lst, i_len_scr, i_max, i_min, i_gcd, i_isqrt, i_tuple1_tup, i_tuple1_lst, i_list1_tup, i_list1_lst, i_all, i_any, i_sum, i_repr_tup, i_repr_lst, i_repr_bl, i_repr_int, y_bl, y_int, y_str, y_tup, y_lst, y_non, it_tup, it_lst, it_scr, t_bl, t_int, t_tup, t_lst, t_non, w_cons, w_nil, wpS, wpE, wpEs, wpG, wpGs, wpI, wpT, startD, nb_fr, view_fr, it_fr, nb_int, nb_tup, nb_bl, nb_str, nb_lst, nb_scr, nb_non, nb_cell, nbs, g_name, g_tup, gsets, wipeD, noOw, itOk, view_int, view_tup, view_bl, view_str, view_lst, view_scr, view_non, at0, at1, at2, at3, ix0, ix1, ix2, tgN, List.map_cons, List.map_nil, List.append_nil, List.nil_append, List.cons_append, List.length_cons, List.length_nil, List.replicate_zero, List.replicate_succ, List.getElem?_cons_zero, List.getElem?_cons_succ, List.set_cons_zero, List.set_cons_succ, List.all_cons, List.all_nil, Bool.and_true, Bool.true_and, Nat.sub_self, Nat.add_sub_cancel_left, zeroNat, if_true, reduceCtorEq, true_and, and_true, ite_true, ite_false, Bool.false_eq_true, if_false, Nat.reduceAdd, Nat.reduceSub, Nat.reduceLT, Nat.zero_add, List.all, Bool.and_self, Int.reduceToNat, List.reduceReplicate, List.flatten_cons, List.flatten_nil, eq_self, permD, List.getD_cons_zero, List.getD_cons_succ, sIx21, List.take_succ_cons, List.take_zero, Nat.reduceLeDiff, and_self, decide_true, decide_false, Bool.not_true, Bool.not_false]
  refine rest_go ?_
  simp only [↓w_for, ↓w_lc, b_add, b_addT, b_addL, b_sub, b_mul, b_mulL, b_mulT, b_fdiv, b_mod, b_pow, c_lt, c_le, c_gt, c_ge, c_eq, c_ne, c_eqS, c_neS, c_eq_tup, c_ne_tup, c_eq_lst, c_ne_lst, c_eq_bl, c_ne_bl, c_inT, c_ninT, i_int, i_intB, i_abs, i_dm, i_len_tup, i_len_lst, i_len_scr, i_max, i_min, i_gcd, i_isqrt, i_tuple1_tup, i_tuple1_lst, i_list1_tup, i_list1_lst, i_all, i_any, i_sum, i_repr_tup, i_repr_lst, i_repr_bl, i_repr_int, y_bl, y_int, y_str, y_tup, y_lst, y_non, it_tup, it_lst, it_scr, t_bl, t_int, t_tup, t_lst, t_non, w_cons, w_nil, wpS, wpE, wpEs, wpG, wpGs, wpI, wpT, startD, nb_fr, view_fr, it_fr, nb_int, nb_tup, nb_bl, nb_str, nb_lst, nb_scr, nb_non, nb_cell, nbs, g_name, g_tup, gsets, wipeD, noOw, itOk, view_int, view_tup, view_bl, view_str, view_lst, view_scr, view_non, at0, at1, at2, at3, ix0, ix1, ix2, tgN, List.map_cons, List.map_nil, List.append_nil, List.nil_append, List.cons_append, List.length_cons, List.length_nil, List.replicate_zero, List.replicate_succ, List.getElem?_cons_zero, List.getElem?_cons_succ, List.set_cons_zero, List.set_cons_succ, List.all_cons, List.all_nil, Bool.and_true, Bool.true_and, Nat.sub_self, Nat.add_sub_cancel_left, zeroNat, if_true, reduceCtorEq, true_and, and_true, ite_true, ite_false, Bool.false_eq_true, if_false, Nat.reduceAdd, Nat.reduceSub, Nat.reduceLT, Nat.zero_add, List.all, Bool.and_self, Int.reduceToNat, List.reduceReplicate, List.flatten_cons, List.flatten_nil, eq_self, permD, List.getD_cons_zero, List.getD_cons_succ, sIx21, List.take_succ_cons, List.take_zero, Nat.reduceLeDiff, and_self, decide_true, decide_false, Bool.not_true, Bool.not_false, dsc_view, dsc_it]
  refine h29 (m + 2) v W2 _ ?_
  simp only [↓w_for, ↓w_lc, b_add, b_addT, b_addL, b_sub, b_mul, b_mulL, b_mulT, b_fdiv, b_mod, b_pow, c_lt, c_le, c_gt, c_ge, c_eq, c_ne, c_eqS, c_neS, c_eq_tup, c_ne_tup, c_eq_lst, c_ne_lst, c_eq_bl, c_ne_bl, c_inT, c_ninT, i_int, i_intB, i_abs, i_dm, i_len_tup, i_len_lst, i_len_scr, i_max, i_min, i_gcd, i_isqrt, i_tuple1_tup, i_tuple1_lst, i_list1_tup, i_list1_lst, i_all, i_any, i_sum, i_repr_tup, i_repr_lst, i_repr_bl, i_repr_int, y_bl, y_int, y_str, y_tup, y_lst, y_non, it_tup, it_lst, it_scr, t_bl, t_int, t_tup, t_lst, t_non, w_cons, w_nil, wpS, wpE, wpEs, wpG, wpGs, wpI, wpT, startD, nb_fr, view_fr, it_fr, nb_int, nb_tup, nb_bl, nb_str, nb_lst, nb_scr, nb_non, nb_cell, nbs, g_name, g_tup, gsets, wipeD, noOw, itOk, view_int, view_tup, view_bl, view_str, view_lst, view_scr, view_non, at0, at1, at2, at3, ix0, ix1, ix2, tgN, List.map_cons, List.map_nil, List.append_nil, List.nil_append, List.cons_append, List.length_cons, List.length_nil, List.replicate_zero, List.replicate_succ, List.getElem?_cons_zero, List.getElem?_cons_succ, List.set_cons_zero, List.set_cons_succ, List.all_cons, List.all_nil, Bool.and_true, Bool.true_and, Nat.sub_self, Nat.add_sub_cancel_left, zeroNat, if_true, reduceCtorEq, true_and, and_true, ite_true, ite_false, Bool.false_eq_true, if_false, Nat.reduceAdd, Nat.reduceSub, Nat.reduceLT, Nat.zero_add, List.all, Bool.and_self, Int.reduceToNat, List.reduceReplicate, List.flatten_cons, List.flatten_nil, eq_self, permD, List.getD_cons_zero, List.getD_cons_succ, sIx21, List.take_succ_cons, List.take_zero, Nat.reduceLeDiff, and_self, decide_true, decide_false, Bool.not_true, Bool.not_false]
  refine h25 m r (absR v) 100 12 W2 _ br bv.abs (by decide) ?_
  simp only [↓w_for, ↓w_lc, b_add, b_addT, b_addL, b_sub, b_mul, b_mulL, b_mulT, b_fdiv, b_mod, b_pow, c_lt, c_le, c_gt, c_ge, c_eq, c_ne, c_eqS, c_neS, c_eq_tup, c_ne_tup, c_eq_lst, c_ne_lst, c_eq_bl, c_ne_bl, c_inT, c_ninT, i_int, i_intB, i_abs, i_dm, i_len_tup, i_len_lst, i_len_scr, i_max, i_min, i_gcd, i_isqrt, i_tuple1_tup, i_tuple1_lst, i_list1_tup, i_list1_lst, i_all, i_any, i_sum, i_repr_tup, i_repr_lst, i_repr_bl, i_repr_int, y_bl, y_int, y_str, y_tup, y_lst, y_non, it_tup, it_lst, it_scr, t_bl, t_int, t_tup, t_lst, t_non, w_cons, w_nil, wpS, wpE, wpEs, wpG, wpGs, wpI, wpT, startD, nb_fr, view_fr, it_fr, nb_int, nb_tup, nb_bl, nb_str, nb_lst, nb_scr, nb_non, nb_cell, nbs, g_name, g_tup, gsets, wipeD, noOw, itOk, view_int, view_tup, view_bl, view_str, view_lst, view_scr, view_non, at0, at1, at2, at3, ix0, ix1, ix2, tgN, List.map_cons, List.map_nil, List.append_nil, List.nil_append, List.cons_append, List.length_cons, List.length_nil, List.replicate_zero, List.replicate_succ, List.getElem?_cons_zero, List.getElem?_cons_succ, List.set_cons_zero, List.set_cons_succ, List.all_cons, List.all_nil, Bool.and_true, Bool.true_and, Nat.sub_self, Nat.add_sub_cancel_left, zeroNat, if_true, reduceCtorEq, true_and, and_true, ite_true, ite_false, Bool.false_eq_true, if_false, Nat.reduceAdd, Nat.reduceSub, Nat.reduceLT, Nat.zero_add, List.all, Bool.and_self, Int.reduceToNat, List.reduceReplicate, List.flatten_cons, List.flatten_nil, eq_self, permD, List.getD_cons_zero, List.getD_cons_succ, sIx21, List.take_succ_cons, List.take_zero, Nat.reduceLeDiff, and_self, decide_true, decide_false, Bool.not_true, Bool.not_false]
  have b3 := br.add bv.abs
  refine h25 m (r + absR v) q 113 12 W2 _ b3 bq (by decide) ?_
  simp only [↓w_for, ↓w_lc, b_add, b_addT, b_addL, b_sub, b_mul, b_mulL, b_mulT, b_fdiv, b_mod, b_pow, c_lt, c_le, c_gt, c_ge, c_eq, c_ne, c_eqS, c_neS, c_eq_tup, c_ne_tup, c_eq_lst, c_ne_lst, c_eq_bl, c_ne_bl, c_inT, c_ninT, i_int, i_intB, i_abs, i_dm, i_len_tup, i_len_lst, i_len_scr, i_max, i_min, i_gcd, i_isqrt, i_tuple1_tup, i_tuple1_lst, i_list1_tup, i_list1_lst, i_all, i_any, i_sum, i_repr_tup, i_repr_lst, i_repr_bl, i_repr_int, y_bl, y_int, y_str, y_tup, y_lst, y_non, it_tup, it_lst, it_scr, t_bl, t_int, t_tup, t_lst, t_non, w_cons, w_nil, wpS, wpE, wpEs, wpG, wpGs, wpI, wpT, startD, nb_fr, view_fr, it_fr, nb_int, nb_tup, nb_bl, nb_str, nb_lst, nb_scr, nb_non, nb_cell, nbs, g_name, g_tup, gsets, wipeD, noOw, itOk, view_int, view_tup, view_bl, view_str, view_lst, view_scr, view_non, at0, at1, at2, at3, ix0, ix1, ix2, tgN, List.map_cons, List.map_nil, List.append_nil, List.nil_append, List.cons_append, List.length_cons, List.length_nil, List.replicate_zero, List.replicate_succ, List.getElem?_cons_zero, List.getElem?_cons_succ, List.set_cons_zero, List.set_cons_succ, List.all_cons, List.all_nil, Bool.and_true, Bool.true_and, Nat.sub_self, Nat.add_sub_cancel_left, zeroNat, if_true, reduceCtorEq, true_and, and_true, ite_true, ite_false, Bool.false_eq_true, if_false, Nat.reduceAdd, Nat.reduceSub, Nat.reduceLT, Nat.zero_add, List.all, Bool.and_self, Int.reduceToNat, List.reduceReplicate, List.flatten_cons, List.flatten_nil, eq_self, permD, List.getD_cons_zero, List.getD_cons_succ, sIx21, List.take_succ_cons, List.take_zero, Nat.reduceLeDiff, and_self, decide_true, decide_false, Bool.not_true, Bool.not_false]
  have b4 := b3.add bq
  refine rest_go ?_
  simp only [↓w_for, ↓w_lc, b_add, b_addT, b_addL, b_sub, b_mul, b_mulL, b_mulT, b_fdiv, b_mod, b_pow, c_lt, c_le, c_gt, c_ge, c_eq, c_ne, c_eqS, c_neS, c_eq_tup, c_ne_tup, c_eq_lst, c_ne_lst, c_eq_bl, c_ne_bl, c_inT, c_ninT, i_int, i_intB, i_abs, i_dm, i_len_tup, i_len_lst, i_len_scr, i_max, i_min, i_gcd, i_isqrt, i_tuple1_tup, i_tuple1_lst, i_list1_tup, i_list1_lst, i_all, i_any, i_sum, i_repr_tup, i_repr_lst, i_repr_bl, i_repr_int, y_bl, y_int, y_str, y_tup, y_lst, y_non, it_tup, it_lst, it_scr, t_bl, t_int, t_tup, t_lst, t_non, w_cons, w_nil, wpS, wpE, wpEs, wpG, wpGs, wpI, wpT, startD, nb_fr, view_fr, it_fr, nb_int, nb_tup, nb_bl, nb_str, nb_lst, nb_scr, nb_non, nb_cell, nbs, g_name, g_tup, gsets, wipeD, noOw, itOk, view_int, view_tup, view_bl, view_str, view_lst, view_scr, view_non, at0, at1, at2, at3, ix0, ix1, ix2, tgN, List.map_cons, List.map_nil, List.append_nil, List.nil_append, List.cons_append, List.length_cons, List.length_nil, List.replicate_zero, List.replicate_succ, List.getElem?_cons_zero, List.getElem?_cons_succ, List.set_cons_zero, List.set_cons_succ, List.all_cons, List.all_nil, Bool.and_true, Bool.true_and, Nat.sub_self, Nat.add_sub_cancel_left, zeroNat, if_true, reduceCtorEq, true_and, and_true, ite_true, ite_false, Bool.false_eq_true, if_false, Nat.reduceAdd, Nat.reduceSub, Nat.reduceLT, Nat.zero_add, List.all, Bool.and_self, Int.reduceToNat, List.reduceReplicate, List.flatten_cons, List.flatten_nil, eq_self, permD, List.getD_cons_zero, List.getD_cons_succ, sIx21, List.take_succ_cons, List.take_zero, Nat.reduceLeDiff, and_self, decide_true, decide_false, Bool.not_true, Bool.not_false, dsc_view, dsc_it]
  refine h25 m u v 100 12 W2 _ bu bv (by decide) ?_
  have b5 := bu.add bv
  simp only [↓w_for, ↓w_lc, b_add, b_addT, b_addL, b_sub, b_mul, b_mulL, b_mulT, b_fdiv, b_mod, b_pow, c_lt, c_le, c_gt, c_ge, c_eq, c_ne, c_eqS, c_neS, c_eq_tup, c_ne_tup, c_eq_lst, c_ne_lst, c_eq_bl, c_ne_bl, c_inT, c_ninT, i_int, i_intB, i_abs, i_dm, i_len_tup, i_len_lst, i_len_scr, i_max, i_min, i_gcd, i_isqrt, i_tuple1_tup, i_tuple1_lst, i_list1_tup, i_list1_lst, i_all, i_any, i_sum, i_repr_tup, i_repr_lst, i_repr_bl, i_repr_int, y_bl, y_int, y_str, y_tup, y_lst, y_non, it_tup, it_lst, it_scr, t_bl, t_int, t_tup, t_lst, t_non, w_cons, w_nil, wpS, wpE, wpEs, wpG, wpGs, wpI, wpT, startD, nb_fr, view_fr, it_fr, nb_int, nb_tup, nb_bl, nb_str, nb_lst, nb_scr, nb_non, nb_cell, nbs, g_name, g_tup, gsets, wipeD, noOw, itOk, view_int, view_tup, view_bl, view_str, view_lst, view_scr, view_non, at0, at1, at2, at3, ix0, ix1, ix2, tgN, List.map_cons, List.map_nil, List.append_nil, List.nil_append, List.cons_append, List.length_cons, List.length_nil, List.replicate_zero, List.replicate_succ, List.getElem?_cons_zero, List.getElem?_cons_succ, List.set_cons_zero, List.set_cons_succ, List.all_cons, List.all_nil, Bool.and_true, Bool.true_and, Nat.sub_self, Nat.add_sub_cancel_left, zeroNat, if_true, reduceCtorEq, true_and, and_true, ite_true, ite_false, Bool.false_eq_true, if_false, Nat.reduceAdd, Nat.reduceSub, Nat.reduceLT, Nat.zero_add, List.all, Bool.and_self, Int.reduceToNat, List.reduceReplicate, List.flatten_cons, List.flatten_nil, eq_self, permD, List.getD_cons_zero, List.getD_cons_succ, sIx21, List.take_succ_cons, List.take_zero, Nat.reduceLeDiff, and_self, decide_true, decide_false, Bool.not_true, Bool.not_false]
  cases hd : decide (0 ≤ (r + absR v + q).num) with
  | true =>
    simp only [↓w_for, ↓w_lc, b_add, b_addT, b_addL, b_sub, b_mul, b_mulL, b_mulT, b_fdiv, b_mod, b_pow, c_lt, c_le, c_gt, c_ge, c_eq, c_ne, c_eqS, c_neS, c_eq_tup, c_ne_tup, c_eq_lst, c_ne_lst, c_eq_bl, c_ne_bl, c_inT, c_ninT, i_int, i_intB, i_abs, i_dm, i_len_tup, i_len_lst, i_len_scr, i_max, i_min, i_gcd, i_isqrt, i_tuple1_tup, i_tuple1_lst, i_list1_tup, i_list1_lst, i_all, i_any, i_sum, i_repr_tup, i_repr_lst, i_repr_bl, i_repr_int, y_bl, y_int, y_str, y_tup, y_lst, y_non, it_tup, it_lst, it_scr, t_bl, t_int, t_tup, t_lst, t_non, w_cons, w_nil, wpS, wpE, wpEs, wpG, wpGs, wpI, wpT, startD, nb_fr, view_fr, it_fr, nb_int, nb_tup, nb_bl, nb_str, nb_lst, nb_scr, nb_non, nb_cell, nbs, g_name, g_tup, gsets, wipeD, noOw, itOk, view_int, view_tup, view_bl, view_str, view_lst, view_scr, view_non, at0, at1, at2, at3, ix0, ix1, ix2, tgN, List.map_cons, List.map_nil, List.append_nil, List.nil_append, List.cons_append, List.length_cons, List.length_nil, List.replicate_zero, List.replicate_succ, List.getElem?_cons_zero, List.getElem?_cons_succ, List.set_cons_zero, List.set_cons_succ, List.all_cons, List.all_nil, Bool.and_true, Bool.true_and, Nat.sub_self, Nat.add_sub_cancel_left, zeroNat, if_true, reduceCtorEq, true_and, and_true, ite_true, ite_false, Bool.false_eq_true, if_false, Nat.reduceAdd, Nat.reduceSub, Nat.reduceLT, Nat.zero_add, List.all, Bool.and_self, Int.reduceToNat, List.reduceReplicate, List.flatten_cons, List.flatten_nil, eq_self, permD, List.getD_cons_zero, List.getD_cons_succ, sIx21, List.take_succ_cons, List.take_zero, Nat.reduceLeDiff, and_self, decide_true, decide_false, Bool.not_true, Bool.not_false, hd]
    exact ⟨by decide, hQ _ _ _ (b5.mono (by decide)) (b4.mono (by decide)) ((nonneg_iff _).mpr (of_decide_eq_true hd)) hw2⟩
  | false =>
    simp only [↓w_for, ↓w_lc, b_add, b_addT, b_addL, b_sub, b_mul, b_mulL, b_mulT, b_fdiv, b_mod, b_pow, c_lt, c_le, c_gt, c_ge, c_eq, c_ne, c_eqS, c_neS, c_eq_tup, c_ne_tup, c_eq_lst, c_ne_lst, c_eq_bl, c_ne_bl, c_inT, c_ninT, i_int, i_intB, i_abs, i_dm, i_len_tup, i_len_lst, i_len_scr, i_max, i_min, i_gcd, i_isqrt, i_tuple1_tup, i_tuple1_lst, i_list1_tup, i_list1_lst, i_all, i_any, i_sum, i_repr_tup, i_repr_lst, i_repr_bl, i_repr_int, y_bl, y_int, y_str, y_tup, y_lst, y_non, it_tup, it_lst, it_scr, t_bl, t_int, t_tup, t_lst, t_non, w_cons, w_nil, wpS, wpE, wpEs, wpG, wpGs, wpI, wpT, startD, nb_fr, view_fr, it_fr, nb_int, nb_tup, nb_bl, nb_str, nb_lst, nb_scr, nb_non, nb_cell, nbs, g_name, g_tup, gsets, wipeD, noOw, itOk, view_int, view_tup, view_bl, view_str, view_lst, view_scr, view_non, at0, at1, at2, at3, ix0, ix1, ix2, tgN, List.map_cons, List.map_nil, List.append_nil, List.nil_append, List.cons_append, List.length_cons, List.length_nil, List.replicate_zero, List.replicate_succ, List.getElem?_cons_zero, List.getElem?_cons_succ, List.set_cons_zero, List.set_cons_succ, List.all_cons, List.all_nil, Bool.and_true, Bool.true_and, Nat.sub_self, Nat.add_sub_cancel_left, zeroNat, if_true, reduceCtorEq, true_and, and_true, ite_true, ite_false, Bool.false_eq_true, if_false, Nat.reduceAdd, Nat.reduceSub, Nat.reduceLT, Nat.zero_add, List.all, Bool.and_self, Int.reduceToNat, List.reduceReplicate, List.flatten_cons, List.flatten_nil, eq_self, permD, List.getD_cons_zero, List.getD_cons_succ, sIx21, List.take_succ_cons, List.take_zero, Nat.reduceLeDiff, and_self, decide_true, decide_false, Bool.not_true, Bool.not_false, hd]
    refine ⟨by decide, by decide, hQ _ ⟨0, 1, by decide, by decide⟩ _ (b5.mono (by decide)) (by constructor <;> (unfold Sz; decide)) ?_ hw2⟩
    decide
theorem h34 (m k c : Nat) (u r : Rat) (W : Ce) (Q : D → Ce → Prop) (bu : Bd 24 u) (br : Bd 24 r) (pr : 0 ≤ r) (hw : Wl k (c + 4) W) (hQ : ∀ (x y : Rat) (W' : Ce), Bd 200 x → Bd 200 y → (x - u) * (x - u) + y * y ≤ r * r → Wl k c W' → Q (dsc x y) W') : wpC fs cs (m + 4) 34 [.cell k, dsc u r] W Q := by
  refine wpC_step (f := f34) rfl rfl ?_
  simp only [f34, ↓w_for, ↓w_lc, b_add, b_addT, b_addL, b_sub, b_mul, b_mulL, b_mulT, b_fdiv, b_mod, b_pow, c_lt, c_le, c_gt, c_ge, c_eq, c_ne, c_eqS, c_neS, c_eq_tup, c_ne_tup, c_eq_lst, c_ne_lst, c_eq_bl, c_ne_bl, c_inT, c_ninT, i_int, i_intB, i_abs, i_dm, i_len_tup, i_len_lst, i_len_scr, i_max, i_min, i_gcd, i_isqrt, i_tuple1_tup, i_tuple1_lst, i_list1_tup, i_list1_lst, i_all, i_any, i_sum, i_repr_tup, i_repr_lst, i_repr_bl, i_repr_int, y_bl, y_int, y_str, y_tup, y_lst, y_non, it_tup, it_lst, it_scr, t_bl, t_int, t_tup, t_lst, t_non, w_cons, w_nil, wpS, wpE, wpEs, wpG, wpGs, wpI, wpT, startD, nb_fr, view_fr, it_fr, nb_int, nb_tup, nb_bl, nb_str, nb_lst, nb_scr, nb_non, nb_cell, nbs, g_name, g_tup, gsets, wipeD, noOw, itOk, view_int, view_tup, view_bl, view_str, view_lst, view_scr, view_non, at0, at1, at2, at3, ix0, ix1, ix2, tgN, List.map_cons, List.map_nil, List.append_nil, List.nil_append, List.cons_append, List.length_cons, List.length_nil, List.replicate_zero, List.replicate_succ, List.getElem?_cons_zero, List.getElem?_cons_succ, List.set_cons_zero, List.set_cons_succ, List.all_cons, List.all_nil, Bool.and_true, Bool.true_and, Nat.sub_self, Nat.add_sub_cancel_left, zeroNat, if_true, reduceCtorEq, true_and, and_true, ite_true, ite_false, Bool.false_eq_true, if_false, Nat.reduceAdd, Nat.reduceSub, Nat.reduceLT, Nat.zero_add, List.all, Bool.and_self, Int.reduceToNat, List.reduceReplicate, List.flatten_cons, List.flatten_nil, eq_self, permD, List.getD_cons_zero, List.getD_cons_succ, sIx21, List.take_succ_cons, List.take_zero, Nat.reduceLeDiff, and_self, decide_true, decide_false, Bool.not_true, Bool.not_false, dsc_nb]
  refine h31 m k (c + 1) W _ hw (fun x y W1 bx by_ one hw1 => ?_)
  simp only [↓w_for, ↓w_lc, b_add, b_addT, b_addL, b_sub, b_mul, b_mulL, b_mulT, b_fdiv, b_mod, b_pow, c_lt, c_le, c_gt, c_ge, c_eq, c_ne, c_eqS, c_neS, c_eq_tup, c_ne_tup, c_eq_lst, c_ne_lst, c_eq_bl, c_ne_bl, c_inT, c_ninT, i_int, i_intB, i_abs, i_dm, i_len_tup, i_len_lst, i_len_scr, i_max, i_min, i_gcd, i_isqrt, i_tuple1_tup, i_tuple1_lst, i_list1_tup, i_list1_lst, i_all, i_any, i_sum, i_repr_tup, i_repr_lst, i_repr_bl, i_repr_int, y_bl, y_int, y_str, y_tup, y_lst, y_non, it_tup, it_lst, it_scr, t_bl, t_int, t_tup, t_lst, t_non, w_cons, w_nil, wpS, wpE, wpEs, wpG, wpGs, wpI, wpT, startD, nb_fr, view_fr, it_fr, nb_int, nb_tup, nb_bl, nb_str, nb_lst, nb_scr, nb_non, nb_cell, nbs, g_name, g_tup, gsets, wipeD, noOw, itOk, view_int, view_tup, view_bl, view_str, view_lst, view_scr, view_non, at0, at1, at2, at3, ix0, ix1, ix2, tgN, List.map_cons, List.map_nil, List.append_nil, List.nil_append, List.cons_append, List.length_cons, List.length_nil, List.replicate_zero, List.replicate_succ, List.getElem?_cons_zero, List.getElem?_cons_succ, List.set_cons_zero, List.set_cons_succ, List.all_cons, List.all_nil, Bool.and_true, Bool.true_and, Nat.sub_self, Nat.add_sub_cancel_left, zeroNat, if_true, reduceCtorEq, true_and, and_true, ite_true, ite_false, Bool.false_eq_true, if_false, Nat.reduceAdd, Nat.reduceSub, Nat.reduceLT, Nat.zero_add, List.all, Bool.and_self, Int.reduceToNat, List.reduceReplicate, List.flatten_cons, List.flatten_nil, eq_self, permD, List.getD_cons_zero, List.getD_cons_succ, sIx21, List.take_succ_cons, List.take_zero, Nat.reduceLeDiff, and_self, decide_true, decide_false, Bool.not_true, Bool.not_false]
  refine rest_go ?_
  simp only [↓w_for, ↓w_lc, b_add, b_addT, b_addL, b_sub, b_mul, b_mulL, b_mulT, b_fdiv, b_mod, b_pow, c_lt, c_le, c_gt, c_ge, c_eq, c_ne, c_eqS, c_neS, c_eq_tup, c_ne_tup, c_eq_lst, c_ne_lst, c_eq_bl, c_ne_bl, c_inT, c_ninT, i_int, i_intB, i_abs, i_dm, i_len_tup, i_len_lst, i_len_scr, i_max, i_min, i_gcd, i_isqrt, i_tuple1_tup, i_tuple1_lst, i_list1_tup, i_list1_lst, i_all, i_any, i_sum, i_repr_tup, i_repr_lst, i_repr_bl, i_repr_int, y_bl, y_int, y_str, y_tup, y_lst, y_non, it_tup, it_lst, it_scr, t_bl, t_int, t_tup, t_lst, t_non, w_cons, w_nil, wpS, wpE, wpEs, wpG, wpGs, wpI, wpT, startD, nb_fr, view_fr, it_fr, nb_int, nb_tup, nb_bl, nb_str, nb_lst, nb_scr, nb_non, nb_cell, nbs, g_name, g_tup, gsets, wipeD, noOw, itOk, view_int, view_tup, view_bl, view_str, view_lst, view_scr, view_non, at0, at1, at2, at3, ix0, ix1, ix2, tgN, List.map_cons, List.map_nil, List.append_nil, List.nil_append, List.cons_append, List.length_cons, List.length_nil, List.replicate_zero, List.replicate_succ, List.getElem?_cons_zero, List.getElem?_cons_succ, List.set_cons_zero, List.set_cons_succ, List.all_cons, List.all_nil, Bool.and_true, Bool.true_and, Nat.sub_self, Nat.add_sub_cancel_left, zeroNat, if_true, reduceCtorEq, true_and, and_true, ite_true, ite_false, Bool.false_eq_true, if_false, Nat.reduceAdd, Nat.reduceSub, Nat.reduceLT, Nat.zero_add, List.all, Bool.and_self, Int.reduceToNat, List.reduceReplicate, List.flatten_cons, List.flatten_nil, eq_self, permD, List.getD_cons_zero, List.getD_cons_succ, sIx21, List.take_succ_cons, List.take_zero, Nat.reduceLeDiff, and_self, decide_true, decide_false, Bool.not_true, Bool.not_false, dsc_view, dsc_it]
  refine ⟨by decide, by decide, by decide, by decide, by decide, ?_⟩
  refine h22 (m + 1) k c _ W1 _ hw1 (by simp) (by simp) (fun x hx => ?_) (fun z W2 hz hw2 => ?_)
  · simp only [List.mem_cons, List.not_mem_nil, or_false] at hx
    rcases hx with rfl | rfl | rfl | rfl <;> rfl
  have hx : ∃ q : Rat, z = fr q ∧ Bd 12 q ∧ q * q ≤ 1 := by
    simp only [List.mem_cons, List.not_mem_nil, or_false] at hz
    rcases hz with rfl | rfl | rfl | rfl
    · exact ⟨_, frc (d := 1) (by decide) (by decide), by constructor <;> (unfold Sz; decide), by decide +kernel⟩
    · exact ⟨_, frc (d := 1) (by decide) (by decide), by constructor <;> (unfold Sz; decide), by decide +kernel⟩
    · exact ⟨_, frc (d := 2) (by decide) (by decide), by constructor <;> (unfold Sz; decide), by decide +kernel⟩
    · exact ⟨_, frc (d := 1) (by decide) (by decide), by constructor <;> (unfold Sz; decide), by decide +kernel⟩
  obtain ⟨q, rfl, bq, q1⟩ := hx
  simp only [↓w_for, ↓w_lc, b_add, b_addT, b_addL, b_sub, b_mul, b_mulL, b_mulT, b_fdiv, b_mod, b_pow, c_lt, c_le, c_gt, c_ge, c_eq, c_ne, c_eqS, c_neS, c_eq_tup, c_ne_tup, c_eq_lst, c_ne_lst, c_eq_bl, c_ne_bl, c_inT, c_ninT, i_int, i_intB, i_abs, i_dm, i_len_tup, i_len_lst, i_len_scr, i_max, i_min, i_gcd, i_isqrt, i_tuple1_tup, i_tuple1_lst, i_list1_tup, i_list1_lst, i_all, i_any, i_sum, i_repr_tup, i_repr_lst, i_repr_bl, i_repr_int, y_bl, y_int, y_str, y_tup, y_lst, y_non, it_tup, it_lst, it_scr, t_bl, t_int, t_tup, t_lst, t_non, w_cons, w_nil, wpS, wpE, wpEs, wpG, wpGs, wpI, wpT, startD, nb_fr, view_fr, it_fr, nb_int, nb_tup, nb_bl, nb_str, nb_lst, nb_scr, nb_non, nb_cell, nbs, g_name, g_tup, gsets, wipeD, noOw, itOk, view_int, view_tup, view_bl, view_str, view_lst, view_scr, view_non, at0, at1, at2, at3, ix0, ix1, ix2, tgN, List.map_cons, List.map_nil, List.append_nil, List.nil_append, List.cons_append, List.length_cons, List.length_nil, List.replicate_zero, List.replicate_succ, List.getElem?_cons_zero, List.getElem?_cons_succ, List.set_cons_zero, List.set_cons_succ, List.all_cons, List.all_nil, Bool.and_true, Bool.true_and, Nat.sub_self, Nat.add_sub_cancel_left, zeroNat, if_true, reduceCtorEq, true_and, and_true, ite_true, ite_false, Bool.false_eq_true, if_false, Nat.reduceAdd, Nat.reduceSub, Nat.reduceLT, Nat.zero_add, List.all, Bool.and_self, Int.reduceToNat, List.reduceReplicate, List.flatten_cons, List.flatten_nil, eq_self, permD, List.getD_cons_zero, List.getD_cons_succ, sIx21, List.take_succ_cons, List.take_zero, Nat.reduceLeDiff, and_self, decide_true, decide_false, Bool.not_true, Bool.not_false]
  refine h27 m r q 24 12 W2 _ br bq (by decide) ?_
  have b1 := br.mul bq
  simp only [↓w_for, ↓w_lc, b_add, b_addT, b_addL, b_sub, b_mul, b_mulL, b_mulT, b_fdiv, b_mod, b_pow, c_lt, c_le, c_gt, c_ge, c_eq, c_ne, c_eqS, c_neS, c_eq_tup, c_ne_tup, c_eq_lst, c_ne_lst, c_eq_bl, c_ne_bl, c_inT, c_ninT, i_int, i_intB, i_abs, i_dm, i_len_tup, i_len_lst, i_len_scr, i_max, i_min, i_gcd, i_isqrt, i_tuple1_tup, i_tuple1_lst, i_list1_tup, i_list1_lst, i_all, i_any, i_sum, i_repr_tup, i_repr_lst, i_repr_bl, i_repr_int, y_bl, y_int, y_str, y_tup, y_lst, y_non, it_tup, it_lst, it_scr, t_bl, t_int, t_tup, t_lst, t_non, w_cons, w_nil, wpS, wpE, wpEs, wpG, wpGs, wpI, wpT, startD, nb_fr, view_fr, it_fr, nb_int, nb_tup, nb_bl, nb_str, nb_lst, nb_scr, nb_non, nb_cell, nbs, g_name, g_tup, gsets, wipeD, noOw, itOk, view_int, view_tup, view_bl, view_str, view_lst, view_scr, view_non, at0, at1, at2, at3, ix0, ix1, ix2, tgN, List.map_cons, List.map_nil, List.append_nil, List.nil_append, List.cons_append, List.length_cons, List.length_nil, List.replicate_zero, List.replicate_succ, List.getElem?_cons_zero, List.getElem?_cons_succ, List.set_cons_zero, List.set_cons_succ, List.all_cons, List.all_nil, Bool.and_true, Bool.true_and, Nat.sub_self, Nat.add_sub_cancel_left, zeroNat, if_true, reduceCtorEq, true_and, and_true, ite_true, ite_false, Bool.false_eq_true, if_false, Nat.reduceAdd, Nat.reduceSub, Nat.reduceLT, Nat.zero_add, List.all, Bool.and_self, Int.reduceToNat, List.reduceReplicate, List.flatten_cons, List.flatten_nil, eq_self, permD, List.getD_cons_zero, List.getD_cons_succ, sIx21, List.take_succ_cons, List.take_zero, Nat.reduceLeDiff, and_self, decide_true, decide_false, Bool.not_true, Bool.not_false]
  refine rest_go ?_
  simp only [↓w_for, ↓w_lc, b_add, b_addT, b_addL, b_sub, b_mul, b_mulL, b_mulT, b_fdiv, b_mod, b_pow, c_lt, c_le, c_gt, c_ge, c_eq, c_ne, c_eqS, c_neS, c_eq_tup, c_ne_tup, c_eq_lst, c_ne_lst, c_eq_bl, c_ne_bl, c_inT, c_ninT, i_int, i_intB, i_abs, i_dm, i_len_tup, i_len_lst, i_len_scr, i_max, i_min, i_gcd, i_isqrt, i_tuple1_tup, i_tuple1_lst, i_list1_tup, i_list1_lst, i_all, i_any, i_sum, i_repr_tup, i_repr_lst, i_repr_bl, i_repr_int, y_bl, y_int, y_str, y_tup, y_lst, y_non, it_tup, it_lst, it_scr, t_bl, t_int, t_tup, t_lst, t_non, w_cons, w_nil, wpS, wpE, wpEs, wpG, wpGs, wpI, wpT, startD, nb_fr, view_fr, it_fr, nb_int, nb_tup, nb_bl, nb_str, nb_lst, nb_scr, nb_non, nb_cell, nbs, g_name, g_tup, gsets, wipeD, noOw, itOk, view_int, view_tup, view_bl, view_str, view_lst, view_scr, view_non, at0, at1, at2, at3, ix0, ix1, ix2, tgN, List.map_cons, List.map_nil, List.append_nil, List.nil_append, List.cons_append, List.length_cons, List.length_nil, List.replicate_zero, List.replicate_succ, List.getElem?_cons_zero, List.getElem?_cons_succ, List.set_cons_zero, List.set_cons_succ, List.all_cons, List.all_nil, Bool.and_true, Bool.true_and, Nat.sub_self, Nat.add_sub_cancel_left, zeroNat, if_true, reduceCtorEq, true_and, and_true, ite_true, ite_false, Bool.false_eq_true, if_false, Nat.reduceAdd, Nat.reduceSub, Nat.reduceLT, Nat.zero_add, List.all, Bool.and_self, Int.reduceToNat, List.reduceReplicate, List.flatten_cons, List.flatten_nil, eq_self, permD, List.getD_cons_zero, List.getD_cons_succ, sIx21, List.take_succ_cons, List.take_zero, Nat.reduceLeDiff, and_self, decide_true, decide_false, Bool.not_true, Bool.not_false, dsc_view, dsc_it]
  refine h27 m (r * q) x 36 24 W2 _ b1 bx (by decide) ?_
  have b2 := b1.mul bx
  simp only [↓w_for, ↓w_lc, b_add, b_addT, b_addL, b_sub, b_mul, b_mulL, b_mulT, b_fdiv, b_mod, b_pow, c_lt, c_le, c_gt, c_ge, c_eq, c_ne, c_eqS, c_neS, c_eq_tup, c_ne_tup, c_eq_lst, c_ne_lst, c_eq_bl, c_ne_bl, c_inT, c_ninT, i_int, i_intB, i_abs, i_dm, i_len_tup, i_len_lst, i_len_scr, i_max, i_min, i_gcd, i_isqrt, i_tuple1_tup, i_tuple1_lst, i_list1_tup, i_list1_lst, i_all, i_any, i_sum, i_repr_tup, i_repr_lst, i_repr_bl, i_repr_int, y_bl, y_int, y_str, y_tup, y_lst, y_non, it_tup, it_lst, it_scr, t_bl, t_int, t_tup, t_lst, t_non, w_cons, w_nil, wpS, wpE, wpEs, wpG, wpGs, wpI, wpT, startD, nb_fr, view_fr, it_fr, nb_int, nb_tup, nb_bl, nb_str, nb_lst, nb_scr, nb_non, nb_cell, nbs, g_name, g_tup, gsets, wipeD, noOw, itOk, view_int, view_tup, view_bl, view_str, view_lst, view_scr, view_non, at0, at1, at2, at3, ix0, ix1, ix2, tgN, List.map_cons, List.map_nil, List.append_nil, List.nil_append, List.cons_append, List.length_cons, List.length_nil, List.replicate_zero, List.replicate_succ, List.getElem?_cons_zero, List.getElem?_cons_succ, List.set_cons_zero, List.set_cons_succ, List.all_cons, List.all_nil, Bool.and_true, Bool.true_and, Nat.sub_self, Nat.add_sub_cancel_left, zeroNat, if_true, reduceCtorEq, true_and, and_true, ite_true, ite_false, Bool.false_eq_true, if_false, Nat.reduceAdd, Nat.reduceSub, Nat.reduceLT, Nat.zero_add, List.all, Bool.and_self, Int.reduceToNat, List.reduceReplicate, List.flatten_cons, List.flatten_nil, eq_self, permD, List.getD_cons_zero, List.getD_cons_succ, sIx21, List.take_succ_cons, List.take_zero, Nat.reduceLeDiff, and_self, decide_true, decide_false, Bool.not_true, Bool.not_false]
  refine h25 m u (r * q * x) 24 60 W2 _ bu b2 (by decide) ?_
  have b3 := bu.add b2
  simp only [↓w_for, ↓w_lc, b_add, b_addT, b_addL, b_sub, b_mul, b_mulL, b_mulT, b_fdiv, b_mod, b_pow, c_lt, c_le, c_gt, c_ge, c_eq, c_ne, c_eqS, c_neS, c_eq_tup, c_ne_tup, c_eq_lst, c_ne_lst, c_eq_bl, c_ne_bl, c_inT, c_ninT, i_int, i_intB, i_abs, i_dm, i_len_tup, i_len_lst, i_len_scr, i_max, i_min, i_gcd, i_isqrt, i_tuple1_tup, i_tuple1_lst, i_list1_tup, i_list1_lst, i_all, i_any, i_sum, i_repr_tup, i_repr_lst, i_repr_bl, i_repr_int, y_bl, y_int, y_str, y_tup, y_lst, y_non, it_tup, it_lst, it_scr, t_bl, t_int, t_tup, t_lst, t_non, w_cons, w_nil, wpS, wpE, wpEs, wpG, wpGs, wpI, wpT, startD, nb_fr, view_fr, it_fr, nb_int, nb_tup, nb_bl, nb_str, nb_lst, nb_scr, nb_non, nb_cell, nbs, g_name, g_tup, gsets, wipeD, noOw, itOk, view_int, view_tup, view_bl, view_str, view_lst, view_scr, view_non, at0, at1, at2, at3, ix0, ix1, ix2, tgN, List.map_cons, List.map_nil, List.append_nil, List.nil_append, List.cons_append, List.length_cons, List.length_nil, List.replicate_zero, List.replicate_succ, List.getElem?_cons_zero, List.getElem?_cons_succ, List.set_cons_zero, List.set_cons_succ, List.all_cons, List.all_nil, Bool.and_true, Bool.true_and, Nat.sub_self, Nat.add_sub_cancel_left, zeroNat, if_true, reduceCtorEq, true_and, and_true, ite_true, ite_false, Bool.false_eq_true, if_false, Nat.reduceAdd, Nat.reduceSub, Nat.reduceLT, Nat.zero_add, List.all, Bool.and_self, Int.reduceToNat, List.reduceReplicate, List.flatten_cons, List.flatten_nil, eq_self, permD, List.getD_cons_zero, List.getD_cons_succ, sIx21, List.take_succ_cons, List.take_zero, Nat.reduceLeDiff, and_self, decide_true, decide_false, Bool.not_true, Bool.not_false]
  refine h27 m (r * q) y 36 24 W2 _ b1 by_ (by decide) ?_
  have b4 := b1.mul by_
  simp only [↓w_for, ↓w_lc, b_add, b_addT, b_addL, b_sub, b_mul, b_mulL, b_mulT, b_fdiv, b_mod, b_pow, c_lt, c_le, c_gt, c_ge, c_eq, c_ne, c_eqS, c_neS, c_eq_tup, c_ne_tup, c_eq_lst, c_ne_lst, c_eq_bl, c_ne_bl, c_inT, c_ninT, i_int, i_intB, i_abs, i_dm, i_len_tup, i_len_lst, i_len_scr, i_max, i_min, i_gcd, i_isqrt, i_tuple1_tup, i_tuple1_lst, i_list1_tup, i_list1_lst, i_all, i_any, i_sum, i_repr_tup, i_repr_lst, i_repr_bl, i_repr_int, y_bl, y_int, y_str, y_tup, y_lst, y_non, it_tup, it_lst, it_scr, t_bl, t_int, t_tup, t_lst, t_non, w_cons, w_nil, wpS, wpE, wpEs, wpG, wpGs, wpI, wpT, startD, nb_fr, view_fr, it_fr, nb_int, nb_tup, nb_bl, nb_str, nb_lst, nb_scr, nb_non, nb_cell, nbs, g_name, g_tup, gsets, wipeD, noOw, itOk, view_int, view_tup, view_bl, view_str, view_lst, view_scr, view_non, at0, at1, at2, at3, ix0, ix1, ix2, tgN, List.map_cons, List.map_nil, List.append_nil, List.nil_append, List.cons_append, List.length_cons, List.length_nil, List.replicate_zero, List.replicate_succ, List.getElem?_cons_zero, List.getElem?_cons_succ, List.set_cons_zero, List.set_cons_succ, List.all_cons, List.all_nil, Bool.and_true, Bool.true_and, Nat.sub_self, Nat.add_sub_cancel_left, zeroNat, if_true, reduceCtorEq, true_and, and_true, ite_true, ite_false, Bool.false_eq_true, if_false, Nat.reduceAdd, Nat.reduceSub, Nat.reduceLT, Nat.zero_add, List.all, Bool.and_self, Int.reduceToNat, List.reduceReplicate, List.flatten_cons, List.flatten_nil, eq_self, permD, List.getD_cons_zero, List.getD_cons_succ, sIx21, List.take_succ_cons, List.take_zero, Nat.reduceLeDiff, and_self, decide_true, decide_false, Bool.not_true, Bool.not_false]
  refine ⟨by decide, hQ _ _ _ (b3.mono (by decide)) (b4.mono (by decide)) ?_ hw2⟩
  have e : (u + r * q * x - u) * (u + r * q * x - u) + r * q * y * (r * q * y) = (r * r) * (q * q) := by grind
  rw [e]
  have h2 : 0 ≤ r * r := Rat.mul_nonneg pr pr
  have h3 := Rat.mul_le_mul_of_nonneg_left q1 h2
  rw [Rat.mul_one] at h3
  exact h3
end K20

set_option Elab.async false
set_option linter.all false
set_option maxRecDepth 100000
set_option maxHeartbeats 0
namespace K20
open PySem L2 Bn
theorem h35 (m : Nat) (u r x y : Rat) (W : Ce) (Q : D → Ce → Prop) (bu : Bd 200 u) (br : Bd 200 r) (bx : Bd 500 x) (by_ : Bd 500 y) (hQ : Q (.bl (decide ((x - u) * (x - u) + y * y ≤ r * r))) W) : wpC fs cs (m + 4) 35 [dsc u r, dsc x y] W Q := by
  refine wpC_step (f := f35) rfl rfl ?_
  simp only [f35, ↓w_for, ↓w_lc, b_add, b_addT, b_addL, b_sub, b_mul, b_mulL, b_mulT, b_fdiv, b_mod, b_pow, c_lt, c_le, c_gt, c_ge, c_eq, c_ne, c_eqS, c_neS, c_eq_tup, c_ne_tup, c_eq_lst, c_ne_lst, c_eq_bl, c_ne_bl, c_inT, c_ninT, i_int, i_intB, i_abs, i_dm, i_len_tup, i_len_lst, i_len_scr, i_max, i_min, i_gcd, i_isqrt, i_tuple1_tup, i_tuple1_lst, i_list1_tup, i_list1_lst, i_all, i_any, i_sum, i_repr_tup, i_repr_lst, i_repr_bl, i_repr_int, y_bl, y_int, y_str, y_tup, y_lst, y_non, it_tup, it_lst, it_scr, t_bl, t_int, t_tup, t_lst, t_non, w_cons, w_nil, wpS, wpE, wpEs, wpG, wpGs, wpI, wpT, startD, nb_fr, view_fr, it_fr, nb_int, nb_tup, nb_bl, nb_str, nb_lst, nb_scr, nb_non, nb_cell, nbs, g_name, g_tup, gsets, wipeD, noOw, itOk, view_int, view_tup, view_bl, view_str, view_lst, view_scr, view_non, at0, at1, at2, at3, ix0, ix1, ix2, tgN, List.map_cons, List.map_nil, List.append_nil, List.nil_append, List.cons_append, List.length_cons, List.length_nil, List.replicate_zero, List.replicate_succ, List.getElem?_cons_zero, List.getElem?_cons_succ, List.set_cons_zero, List.set_cons_succ, List.all_cons, List.all_nil, Bool.and_true, Bool.true_and, Nat.sub_self, Nat.add_sub_cancel_left, zeroNat, if_true, reduceCtorEq, true_and, and_true, ite_true, ite_false, Bool.false_eq_true, if_false, Nat.reduceAdd, Nat.reduceSub, Nat.reduceLT, Nat.zero_add, List.all, Bool.and_self, Int.reduceToNat, List.reduceReplicate, List.flatten_cons, List.flatten_nil, eq_self, permD, List.getD_cons_zero, List.getD_cons_succ, sIx21, List.take_succ_cons, List.take_zero, Nat.reduceLeDiff, and_self, decide_true, decide_false, Bool.not_true, Bool.not_false, dsc_nb, dsc_view, dsc_it]
  refine h26 m x u 500 200 W _ bx bu (by decide) ?_
  have b1 := bx.sub bu
  simp only [↓w_for, ↓w_lc, b_add, b_addT, b_addL, b_sub, b_mul, b_mulL, b_mulT, b_fdiv, b_mod, b_pow, c_lt, c_le, c_gt, c_ge, c_eq, c_ne, c_eqS, c_neS, c_eq_tup, c_ne_tup, c_eq_lst, c_ne_lst, c_eq_bl, c_ne_bl, c_inT, c_ninT, i_int, i_intB, i_abs, i_dm, i_len_tup, i_len_lst, i_len_scr, i_max, i_min, i_gcd, i_isqrt, i_tuple1_tup, i_tuple1_lst, i_list1_tup, i_list1_lst, i_all, i_any, i_sum, i_repr_tup, i_repr_lst, i_repr_bl, i_repr_int, y_bl, y_int, y_str, y_tup, y_lst, y_non, it_tup, it_lst, it_scr, t_bl, t_int, t_tup, t_lst, t_non, w_cons, w_nil, wpS, wpE, wpEs, wpG, wpGs, wpI, wpT, startD, nb_fr, view_fr, it_fr, nb_int, nb_tup, nb_bl, nb_str, nb_lst, nb_scr, nb_non, nb_cell, nbs, g_name, g_tup, gsets, wipeD, noOw, itOk, view_int, view_tup, view_bl, view_str, view_lst, view_scr, view_non, at0, at1, at2, at3, ix0, ix1, ix2, tgN, List.map_cons, List.map_nil, List.append_nil, List.nil_append, List.cons_append, List.length_cons, List.length_nil, List.replicate_zero, List.replicate_succ, List.getElem?_cons_zero, List.getElem?_cons_succ, List.set_cons_zero, List.set_cons_succ, List.all_cons, List.all_nil, Bool.and_true, Bool.true_and, Nat.sub_self, Nat.add_sub_cancel_left, zeroNat, if_true, reduceCtorEq, true_and, and_true, ite_true, ite_false, Bool.false_eq_true, if_false, Nat.reduceAdd, Nat.reduceSub, Nat.reduceLT, Nat.zero_add, List.all, Bool.and_self, Int.reduceToNat, List.reduceReplicate, List.flatten_cons, List.flatten_nil, eq_self, permD, List.getD_cons_zero, List.getD_cons_succ, sIx21, List.take_succ_cons, List.take_zero, Nat.reduceLeDiff, and_self, decide_true, decide_false, Bool.not_true, Bool.not_false, dsc_view, dsc_it]
  refine rest_go ?_
  simp only [↓w_for, ↓w_lc, b_add, b_addT, b_addL, b_sub, b_mul, b_mulL, b_mulT, b_fdiv, b_mod, b_pow, c_lt, c_le, c_gt, c_ge, c_eq, c_ne, c_eqS, c_neS, c_eq_tup, c_ne_tup, c_eq_lst, c_ne_lst, c_eq_bl, c_ne_bl, c_inT, c_ninT, i_int, i_intB, i_abs, i_dm, i_len_tup, i_len_lst, i_len_scr, i_max, i_min, i_gcd, i_isqrt, i_tuple1_tup, i_tuple1_lst, i_list1_tup, i_list1_lst, i_all, i_any, i_sum, i_repr_tup, i_repr_lst, i_repr_bl, i_repr_int, y_bl, y_int, y_str, y_tup, y_lst, y_non, it_tup, it_lst, it_scr, t_bl, t_int, t_tup, t_lst, t_non, w_cons, w_nil, wpS, wpE, wpEs, wpG, wpGs, wpI, wpT, startD, nb_fr, view_fr, it_fr, nb_int, nb_tup, nb_bl, nb_str, nb_lst, nb_scr, nb_non, nb_cell, nbs, g_name, g_tup, gsets, wipeD, noOw, itOk, view_int, view_tup, view_bl, view_str, view_lst, view_scr, view_non, at0, at1, at2, at3, ix0, ix1, ix2, tgN, List.map_cons, List.map_nil, List.append_nil, List.nil_append, List.cons_append, List.length_cons, List.length_nil, List.replicate_zero, List.replicate_succ, List.getElem?_cons_zero, List.getElem?_cons_succ, List.set_cons_zero, List.set_cons_succ, List.all_cons, List.all_nil, Bool.and_true, Bool.true_and, Nat.sub_self, Nat.add_sub_cancel_left, zeroNat, if_true, reduceCtorEq, true_and, and_true, ite_true, ite_false, Bool.false_eq_true, if_false, Nat.reduceAdd, Nat.reduceSub, Nat.reduceLT, Nat.zero_add, List.all, Bool.and_self, Int.reduceToNat, List.reduceReplicate, List.flatten_cons, List.flatten_nil, eq_self, permD, List.getD_cons_zero, List.getD_cons_succ, sIx21, List.take_succ_cons, List.take_zero, Nat.reduceLeDiff, and_self, decide_true, decide_false, Bool.not_true, Bool.not_false]
  refine h27 m (x - u) (x - u) 701 701 W _ b1 b1 (by decide) ?_
  have b2 := b1.mul b1
  simp only [↓w_for, ↓w_lc, b_add, b_addT, b_addL, b_sub, b_mul, b_mulL, b_mulT, b_fdiv, b_mod, b_pow, c_lt, c_le, c_gt, c_ge, c_eq, c_ne, c_eqS, c_neS, c_eq_tup, c_ne_tup, c_eq_lst, c_ne_lst, c_eq_bl, c_ne_bl, c_inT, c_ninT, i_int, i_intB, i_abs, i_dm, i_len_tup, i_len_lst, i_len_scr, i_max, i_min, i_gcd, i_isqrt, i_tuple1_tup, i_tuple1_lst, i_list1_tup, i_list1_lst, i_all, i_any, i_sum, i_repr_tup, i_repr_lst, i_repr_bl, i_repr_int, y_bl, y_int, y_str, y_tup, y_lst, y_non, it_tup, it_lst, it_scr, t_bl, t_int, t_tup, t_lst, t_non, w_cons, w_nil, wpS, wpE, wpEs, wpG, wpGs, wpI, wpT, startD, nb_fr, view_fr, it_fr, nb_int, nb_tup, nb_bl, nb_str, nb_lst, nb_scr, nb_non, nb_cell, nbs, g_name, g_tup, gsets, wipeD, noOw, itOk, view_int, view_tup, view_bl, view_str, view_lst, view_scr, view_non, at0, at1, at2, at3, ix0, ix1, ix2, tgN, List.map_cons, List.map_nil, List.append_nil, List.nil_append, List.cons_append, List.length_cons, List.length_nil, List.replicate_zero, List.replicate_succ, List.getElem?_cons_zero, List.getElem?_cons_succ, List.set_cons_zero, List.set_cons_succ, List.all_cons, List.all_nil, Bool.and_true, Bool.true_and, Nat.sub_self, Nat.add_sub_cancel_left, zeroNat, if_true, reduceCtorEq, true_and, and_true, ite_true, ite_false, Bool.false_eq_true, if_false, Nat.reduceAdd, Nat.reduceSub, Nat.reduceLT, Nat.zero_add, List.all, Bool.and_self, Int.reduceToNat, List.reduceReplicate, List.flatten_cons, List.flatten_nil, eq_self, permD, List.getD_cons_zero, List.getD_cons_succ, sIx21, List.take_succ_cons, List.take_zero, Nat.reduceLeDiff, and_self, decide_true, decide_false, Bool.not_true, Bool.not_false]
  refine h27 m y y 500 500 W _ by_ by_ (by decide) ?_
  have b3 := by_.mul by_
  simp only [↓w_for, ↓w_lc, b_add, b_addT, b_addL, b_sub, b_mul, b_mulL, b_mulT, b_fdiv, b_mod, b_pow, c_lt, c_le, c_gt, c_ge, c_eq, c_ne, c_eqS, c_neS, c_eq_tup, c_ne_tup, c_eq_lst, c_ne_lst, c_eq_bl, c_ne_bl, c_inT, c_ninT, i_int, i_intB, i_abs, i_dm, i_len_tup, i_len_lst, i_len_scr, i_max, i_min, i_gcd, i_isqrt, i_tuple1_tup, i_tuple1_lst, i_list1_tup, i_list1_lst, i_all, i_any, i_sum, i_repr_tup, i_repr_lst, i_repr_bl, i_repr_int, y_bl, y_int, y_str, y_tup, y_lst, y_non, it_tup, it_lst, it_scr, t_bl, t_int, t_tup, t_lst, t_non, w_cons, w_nil, wpS, wpE, wpEs, wpG, wpGs, wpI, wpT, startD, nb_fr, view_fr, it_fr, nb_int, nb_tup, nb_bl, nb_str, nb_lst, nb_scr, nb_non, nb_cell, nbs, g_name, g_tup, gsets, wipeD, noOw, itOk, view_int, view_tup, view_bl, view_str, view_lst, view_scr, view_non, at0, at1, at2, at3, ix0, ix1, ix2, tgN, List.map_cons, List.map_nil, List.append_nil, List.nil_append, List.cons_append, List.length_cons, List.length_nil, List.replicate_zero, List.replicate_succ, List.getElem?_cons_zero, List.getElem?_cons_succ, List.set_cons_zero, List.set_cons_succ, List.all_cons, List.all_nil, Bool.and_true, Bool.true_and, Nat.sub_self, Nat.add_sub_cancel_left, zeroNat, if_true, reduceCtorEq, true_and, and_true, ite_true, ite_false, Bool.false_eq_true, if_false, Nat.reduceAdd, Nat.reduceSub, Nat.reduceLT, Nat.zero_add, List.all, Bool.and_self, Int.reduceToNat, List.reduceReplicate, List.flatten_cons, List.flatten_nil, eq_self, permD, List.getD_cons_zero, List.getD_cons_succ, sIx21, List.take_succ_cons, List.take_zero, Nat.reduceLeDiff, and_self, decide_true, decide_false, Bool.not_true, Bool.not_false]
  refine h25 m _ _ 1402 1000 W _ b2 b3 (by decide) ?_
  have b4 := b2.add b3
  simp only [↓w_for, ↓w_lc, b_add, b_addT, b_addL, b_sub, b_mul, b_mulL, b_mulT, b_fdiv, b_mod, b_pow, c_lt, c_le, c_gt, c_ge, c_eq, c_ne, c_eqS, c_neS, c_eq_tup, c_ne_tup, c_eq_lst, c_ne_lst, c_eq_bl, c_ne_bl, c_inT, c_ninT, i_int, i_intB, i_abs, i_dm, i_len_tup, i_len_lst, i_len_scr, i_max, i_min, i_gcd, i_isqrt, i_tuple1_tup, i_tuple1_lst, i_list1_tup, i_list1_lst, i_all, i_any, i_sum, i_repr_tup, i_repr_lst, i_repr_bl, i_repr_int, y_bl, y_int, y_str, y_tup, y_lst, y_non, it_tup, it_lst, it_scr, t_bl, t_int, t_tup, t_lst, t_non, w_cons, w_nil, wpS, wpE, wpEs, wpG, wpGs, wpI, wpT, startD, nb_fr, view_fr, it_fr, nb_int, nb_tup, nb_bl, nb_str, nb_lst, nb_scr, nb_non, nb_cell, nbs, g_name, g_tup, gsets, wipeD, noOw, itOk, view_int, view_tup, view_bl, view_str, view_lst, view_scr, view_non, at0, at1, at2, at3, ix0, ix1, ix2, tgN, List.map_cons, List.map_nil, List.append_nil, List.nil_append, List.cons_append, List.length_cons, List.length_nil, List.replicate_zero, List.replicate_succ, List.getElem?_cons_zero, List.getElem?_cons_succ, List.set_cons_zero, List.set_cons_succ, List.all_cons, List.all_nil, Bool.and_true, Bool.true_and, Nat.sub_self, Nat.add_sub_cancel_left, zeroNat, if_true, reduceCtorEq, true_and, and_true, ite_true, ite_false, Bool.false_eq_true, if_false, Nat.reduceAdd, Nat.reduceSub, Nat.reduceLT, Nat.zero_add, List.all, Bool.and_self, Int.reduceToNat, List.reduceReplicate, List.flatten_cons, List.flatten_nil, eq_self, permD, List.getD_cons_zero, List.getD_cons_succ, sIx21, List.take_succ_cons, List.take_zero, Nat.reduceLeDiff, and_self, decide_true, decide_false, Bool.not_true, Bool.not_false]
  refine rest_go ?_
  simp only [↓w_for, ↓w_lc, b_add, b_addT, b_addL, b_sub, b_mul, b_mulL, b_mulT, b_fdiv, b_mod, b_pow, c_lt, c_le, c_gt, c_ge, c_eq, c_ne, c_eqS, c_neS, c_eq_tup, c_ne_tup, c_eq_lst, c_ne_lst, c_eq_bl, c_ne_bl, c_inT, c_ninT, i_int, i_intB, i_abs, i_dm, i_len_tup, i_len_lst, i_len_scr, i_max, i_min, i_gcd, i_isqrt, i_tuple1_tup, i_tuple1_lst, i_list1_tup, i_list1_lst, i_all, i_any, i_sum, i_repr_tup, i_repr_lst, i_repr_bl, i_repr_int, y_bl, y_int, y_str, y_tup, y_lst, y_non, it_tup, it_lst, it_scr, t_bl, t_int, t_tup, t_lst, t_non, w_cons, w_nil, wpS, wpE, wpEs, wpG, wpGs, wpI, wpT, startD, nb_fr, view_fr, it_fr, nb_int, nb_tup, nb_bl, nb_str, nb_lst, nb_scr, nb_non, nb_cell, nbs, g_name, g_tup, gsets, wipeD, noOw, itOk, view_int, view_tup, view_bl, view_str, view_lst, view_scr, view_non, at0, at1, at2, at3, ix0, ix1, ix2, tgN, List.map_cons, List.map_nil, List.append_nil, List.nil_append, List.cons_append, List.length_cons, List.length_nil, List.replicate_zero, List.replicate_succ, List.getElem?_cons_zero, List.getElem?_cons_succ, List.set_cons_zero, List.set_cons_succ, List.all_cons, List.all_nil, Bool.and_true, Bool.true_and, Nat.sub_self, Nat.add_sub_cancel_left, zeroNat, if_true, reduceCtorEq, true_and, and_true, ite_true, ite_false, Bool.false_eq_true, if_false, Nat.reduceAdd, Nat.reduceSub, Nat.reduceLT, Nat.zero_add, List.all, Bool.and_self, Int.reduceToNat, List.reduceReplicate, List.flatten_cons, List.flatten_nil, eq_self, permD, List.getD_cons_zero, List.getD_cons_succ, sIx21, List.take_succ_cons, List.take_zero, Nat.reduceLeDiff, and_self, decide_true, decide_false, Bool.not_true, Bool.not_false, dsc_view, dsc_it]
  refine h27 m r r 200 200 W _ br br (by decide) ?_
  have b5 := br.mul br
  simp only [↓w_for, ↓w_lc, b_add, b_addT, b_addL, b_sub, b_mul, b_mulL, b_mulT, b_fdiv, b_mod, b_pow, c_lt, c_le, c_gt, c_ge, c_eq, c_ne, c_eqS, c_neS, c_eq_tup, c_ne_tup, c_eq_lst, c_ne_lst, c_eq_bl, c_ne_bl, c_inT, c_ninT, i_int, i_intB, i_abs, i_dm, i_len_tup, i_len_lst, i_len_scr, i_max, i_min, i_gcd, i_isqrt, i_tuple1_tup, i_tuple1_lst, i_list1_tup, i_list1_lst, i_all, i_any, i_sum, i_repr_tup, i_repr_lst, i_repr_bl, i_repr_int, y_bl, y_int, y_str, y_tup, y_lst, y_non, it_tup, it_lst, it_scr, t_bl, t_int, t_tup, t_lst, t_non, w_cons, w_nil, wpS, wpE, wpEs, wpG, wpGs, wpI, wpT, startD, nb_fr, view_fr, it_fr, nb_int, nb_tup, nb_bl, nb_str, nb_lst, nb_scr, nb_non, nb_cell, nbs, g_name, g_tup, gsets, wipeD, noOw, itOk, view_int, view_tup, view_bl, view_str, view_lst, view_scr, view_non, at0, at1, at2, at3, ix0, ix1, ix2, tgN, List.map_cons, List.map_nil, List.append_nil, List.nil_append, List.cons_append, List.length_cons, List.length_nil, List.replicate_zero, List.replicate_succ, List.getElem?_cons_zero, List.getElem?_cons_succ, List.set_cons_zero, List.set_cons_succ, List.all_cons, List.all_nil, Bool.and_true, Bool.true_and, Nat.sub_self, Nat.add_sub_cancel_left, zeroNat, if_true, reduceCtorEq, true_and, and_true, ite_true, ite_false, Bool.false_eq_true, if_false, Nat.reduceAdd, Nat.reduceSub, Nat.reduceLT, Nat.zero_add, List.all, Bool.and_self, Int.reduceToNat, List.reduceReplicate, List.flatten_cons, List.flatten_nil, eq_self, permD, List.getD_cons_zero, List.getD_cons_succ, sIx21, List.take_succ_cons, List.take_zero, Nat.reduceLeDiff, and_self, decide_true, decide_false, Bool.not_true, Bool.not_false]
  refine h28 (m + 2) _ _ 2403 400 W _ b4 b5 (by decide) ?_
  simp only [↓w_for, ↓w_lc, b_add, b_addT, b_addL, b_sub, b_mul, b_mulL, b_mulT, b_fdiv, b_mod, b_pow, c_lt, c_le, c_gt, c_ge, c_eq, c_ne, c_eqS, c_neS, c_eq_tup, c_ne_tup, c_eq_lst, c_ne_lst, c_eq_bl, c_ne_bl, c_inT, c_ninT, i_int, i_intB, i_abs, i_dm, i_len_tup, i_len_lst, i_len_scr, i_max, i_min, i_gcd, i_isqrt, i_tuple1_tup, i_tuple1_lst, i_list1_tup, i_list1_lst, i_all, i_any, i_sum, i_repr_tup, i_repr_lst, i_repr_bl, i_repr_int, y_bl, y_int, y_str, y_tup, y_lst, y_non, it_tup, it_lst, it_scr, t_bl, t_int, t_tup, t_lst, t_non, w_cons, w_nil, wpS, wpE, wpEs, wpG, wpGs, wpI, wpT, startD, nb_fr, view_fr, it_fr, nb_int, nb_tup, nb_bl, nb_str, nb_lst, nb_scr, nb_non, nb_cell, nbs, g_name, g_tup, gsets, wipeD, noOw, itOk, view_int, view_tup, view_bl, view_str, view_lst, view_scr, view_non, at0, at1, at2, at3, ix0, ix1, ix2, tgN, List.map_cons, List.map_nil, List.append_nil, List.nil_append, List.cons_append, List.length_cons, List.length_nil, List.replicate_zero, List.replicate_succ, List.getElem?_cons_zero, List.getElem?_cons_succ, List.set_cons_zero, List.set_cons_succ, List.all_cons, List.all_nil, Bool.and_true, Bool.true_and, Nat.sub_self, Nat.add_sub_cancel_left, zeroNat, if_true, reduceCtorEq, true_and, and_true, ite_true, ite_false, Bool.false_eq_true, if_false, Nat.reduceAdd, Nat.reduceSub, Nat.reduceLT, Nat.zero_add, List.all, Bool.and_self, Int.reduceToNat, List.reduceReplicate, List.flatten_cons, List.flatten_nil, eq_self, permD, List.getD_cons_zero, List.getD_cons_succ, sIx21, List.take_succ_cons, List.take_zero, Nat.reduceLeDiff, and_self, decide_true, decide_false, Bool.not_true, Bool.not_false, bey_le]
  exact hQ
theorem h36 (m : Nat) (u r : Rat) (b : Nat) (W : Ce) (Q : D → Ce → Prop) (bu : Bd b u) (br : Bd b r) (hb : b ≤ 2000) (hQ : Q (dsc (u - r) (u + r)) W) : wpC fs cs (m + 4) 36 [dsc u r] W Q := by
  refine wpC_step (f := f36) rfl rfl ?_
  simp only [f36, ↓w_for, ↓w_lc, b_add, b_addT, b_addL, b_sub, b_mul, b_mulL, b_mulT, b_fdiv, b_mod, b_pow, c_lt, c_le, c_gt, c_ge, c_eq, c_ne, c_eqS, c_neS, c_eq_tup, c_ne_tup, c_eq_lst, c_ne_lst, c_eq_bl, c_ne_bl, c_inT, c_ninT, i_int, i_intB, i_abs, i_dm, i_len_tup, i_len_lst, i_len_scr, i_max, i_min, i_gcd, i_isqrt, i_tuple1_tup, i_tuple1_lst, i_list1_tup, i_list1_lst, i_all, i_any, i_sum, i_repr_tup, i_repr_lst, i_repr_bl, i_repr_int, y_bl, y_int, y_str, y_tup, y_lst, y_non, it_tup, it_lst, it_scr, t_bl, t_int, t_tup, t_lst, t_non, w_cons, w_nil, wpS, wpE, wpEs, wpG, wpGs, wpI, wpT, startD, nb_fr, view_fr, it_fr, nb_int, nb_tup, nb_bl, nb_str, nb_lst, nb_scr, nb_non, nb_cell, nbs, g_name, g_tup, gsets, wipeD, noOw, itOk, view_int, view_tup, view_bl, view_str, view_lst, view_scr, view_non, at0, at1, at2, at3, ix0, ix1, ix2, tgN, List.map_cons, List.map_nil, List.append_nil, List.nil_append, List.cons_append, List.length_cons, List.length_nil, List.replicate_zero, List.replicate_succ, List.getElem?_cons_zero, List.getElem?_cons_succ, List.set_cons_zero, List.set_cons_succ, List.all_cons, List.all_nil, Bool.and_true, Bool.true_and, Nat.sub_self, Nat.add_sub_cancel_left, zeroNat, if_true, reduceCtorEq, true_and, and_true, ite_true, ite_false, Bool.false_eq_true, if_false, Nat.reduceAdd, Nat.reduceSub, Nat.reduceLT, Nat.zero_add, List.all, Bool.and_self, Int.reduceToNat, List.reduceReplicate, List.flatten_cons, List.flatten_nil, eq_self, permD, List.getD_cons_zero, List.getD_cons_succ, sIx21, List.take_succ_cons, List.take_zero, Nat.reduceLeDiff, and_self, decide_true, decide_false, Bool.not_true, Bool.not_false, dsc_nb, dsc_view, dsc_it]
  refine h26 m u r b b W _ bu br (by omega) ?_
  simp only [↓w_for, ↓w_lc, b_add, b_addT, b_addL, b_sub, b_mul, b_mulL, b_mulT, b_fdiv, b_mod, b_pow, c_lt, c_le, c_gt, c_ge, c_eq, c_ne, c_eqS, c_neS, c_eq_tup, c_ne_tup, c_eq_lst, c_ne_lst, c_eq_bl, c_ne_bl, c_inT, c_ninT, i_int, i_intB, i_abs, i_dm, i_len_tup, i_len_lst, i_len_scr, i_max, i_min, i_gcd, i_isqrt, i_tuple1_tup, i_tuple1_lst, i_list1_tup, i_list1_lst, i_all, i_any, i_sum, i_repr_tup, i_repr_lst, i_repr_bl, i_repr_int, y_bl, y_int, y_str, y_tup, y_lst, y_non, it_tup, it_lst, it_scr, t_bl, t_int, t_tup, t_lst, t_non, w_cons, w_nil, wpS, wpE, wpEs, wpG, wpGs, wpI, wpT, startD, nb_fr, view_fr, it_fr, nb_int, nb_tup, nb_bl, nb_str, nb_lst, nb_scr, nb_non, nb_cell, nbs, g_name, g_tup, gsets, wipeD, noOw, itOk, view_int, view_tup, view_bl, view_str, view_lst, view_scr, view_non, at0, at1, at2, at3, ix0, ix1, ix2, tgN, List.map_cons, List.map_nil, List.append_nil, List.nil_append, List.cons_append, List.length_cons, List.length_nil, List.replicate_zero, List.replicate_succ, List.getElem?_cons_zero, List.getElem?_cons_succ, List.set_cons_zero, List.set_cons_succ, List.all_cons, List.all_nil, Bool.and_true, Bool.true_and, Nat.sub_self, Nat.add_sub_cancel_left, zeroNat, if_true, reduceCtorEq, true_and, and_true, ite_true, ite_false, Bool.false_eq_true, if_false, Nat.reduceAdd, Nat.reduceSub, Nat.reduceLT, Nat.zero_add, List.all, Bool.and_self, Int.reduceToNat, List.reduceReplicate, List.flatten_cons, List.flatten_nil, eq_self, permD, List.getD_cons_zero, List.getD_cons_succ, sIx21, List.take_succ_cons, List.take_zero, Nat.reduceLeDiff, and_self, decide_true, decide_false, Bool.not_true, Bool.not_false, dsc_view, dsc_it]
  refine h25 m u r b b W _ bu br (by omega) ?_
  simp only [↓w_for, ↓w_lc, b_add, b_addT, b_addL, b_sub, b_mul, b_mulL, b_mulT, b_fdiv, b_mod, b_pow, c_lt, c_le, c_gt, c_ge, c_eq, c_ne, c_eqS, c_neS, c_eq_tup, c_ne_tup, c_eq_lst, c_ne_lst, c_eq_bl, c_ne_bl, c_inT, c_ninT, i_int, i_intB, i_abs, i_dm, i_len_tup, i_len_lst, i_len_scr, i_max, i_min, i_gcd, i_isqrt, i_tuple1_tup, i_tuple1_lst, i_list1_tup, i_list1_lst, i_all, i_any, i_sum, i_repr_tup, i_repr_lst, i_repr_bl, i_repr_int, y_bl, y_int, y_str, y_tup, y_lst, y_non, it_tup, it_lst, it_scr, t_bl, t_int, t_tup, t_lst, t_non, w_cons, w_nil, wpS, wpE, wpEs, wpG, wpGs, wpI, wpT, startD, nb_fr, view_fr, it_fr, nb_int, nb_tup, nb_bl, nb_str, nb_lst, nb_scr, nb_non, nb_cell, nbs, g_name, g_tup, gsets, wipeD, noOw, itOk, view_int, view_tup, view_bl, view_str, view_lst, view_scr, view_non, at0, at1, at2, at3, ix0, ix1, ix2, tgN, List.map_cons, List.map_nil, List.append_nil, List.nil_append, List.cons_append, List.length_cons, List.length_nil, List.replicate_zero, List.replicate_succ, List.getElem?_cons_zero, List.getElem?_cons_succ, List.set_cons_zero, List.set_cons_succ, List.all_cons, List.all_nil, Bool.and_true, Bool.true_and, Nat.sub_self, Nat.add_sub_cancel_left, zeroNat, if_true, reduceCtorEq, true_and, and_true, ite_true, ite_false, Bool.false_eq_true, if_false, Nat.reduceAdd, Nat.reduceSub, Nat.reduceLT, Nat.zero_add, List.all, Bool.and_self, Int.reduceToNat, List.reduceReplicate, List.flatten_cons, List.flatten_nil, eq_self, permD, List.getD_cons_zero, List.getD_cons_succ, sIx21, List.take_succ_cons, List.take_zero, Nat.reduceLeDiff, and_self, decide_true, decide_false, Bool.not_true, Bool.not_false]
  exact ⟨by decide, hQ⟩
def half : Rat := ⟨1, 2, by decide, by decide⟩
theorem half_D : D.tup [.int 1, .int 2] = fr half := rfl
theorem half_B : Bd 2 half := by constructor <;> (unfold Sz; decide)
theorem half_eq : half = 1 / 2 := by decide +kernel
theorem h37 (m : Nat) (x y : Rat) (b : Nat) (W : Ce) (Q : D → Ce → Prop) (bx : Bd b x) (by_ : Bd b y) (hb : b ≤ 2000) (hQ : Q (dsc (half * (x + y)) (half * absR (x - y))) W) : wpC fs cs (m + 4) 37 [fr x, fr y] W Q := by
  refine wpC_step (f := f37) rfl rfl ?_
  simp only [f37, ↓w_for, ↓w_lc, b_add, b_addT, b_addL, b_sub, b_mul, b_mulL, b_mulT, b_fdiv, b_mod, b_pow, c_lt, c_le, c_gt, c_ge, c_eq, c_ne, c_eqS, c_neS, c_eq_tup, c_ne_tup, c_eq_lst, c_ne_lst, c_eq_bl, c_ne_bl, c_inT, c_ninT, i_int, i_intB, i_abs, i_dm, i_len_tup, i_len_lst, i_len_scr, i_max, i_min, i_gcd, i_isqrt, i_tuple1_tup, i_tuple1_lst, i_list1_tup, i_list1_lst, i_all, i_any, i_sum, i_repr_tup, i_repr_lst, i_repr_bl, i_repr_int, y_bl, y_int, y_str, y_tup, y_lst, y_non, it_tup, it_lst, it_scr, t_bl, t_int, t_tup, t_lst, t_non, w_cons, w_nil, wpS, wpE, wpEs, wpG, wpGs, wpI, wpT, startD, nb_fr, view_fr, it_fr, nb_int, nb_tup, nb_bl, nb_str, nb_lst, nb_scr, nb_non, nb_cell, nbs, g_name, g_tup, gsets, wipeD, noOw, itOk, view_int, view_tup, view_bl, view_str, view_lst, view_scr, view_non, at0, at1, at2, at3, ix0, ix1, ix2, tgN, List.map_cons, List.map_nil, List.append_nil, List.nil_append, List.cons_append, List.length_cons, List.length_nil, List.replicate_zero, List.replicate_succ, List.getElem?_cons_zero, List.getElem?_cons_succ, List.set_cons_zero, List.set_cons_succ, List.all_cons, List.all_nil, Bool.and_true, Bool.true_and, Nat.sub_self, Nat.add_sub_cancel_left, zeroNat, if_true, reduceCtorEq, true_and, and_true, ite_true, ite_false, Bool.false_eq_true, if_false, Nat.reduceAdd, Nat.reduceSub, Nat.reduceLT, Nat.zero_add, List.all, Bool.and_self, Int.reduceToNat, List.reduceReplicate, List.flatten_cons, List.flatten_nil, eq_self, permD, List.getD_cons_zero, List.getD_cons_succ, sIx21, List.take_succ_cons, List.take_zero, Nat.reduceLeDiff, and_self, decide_true, decide_false, Bool.not_true, Bool.not_false]
  refine ⟨by decide, ?_⟩
  refine h25 m x y b b W _ bx by_ (by omega) ?_
  simp only [↓w_for, ↓w_lc, b_add, b_addT, b_addL, b_sub, b_mul, b_mulL, b_mulT, b_fdiv, b_mod, b_pow, c_lt, c_le, c_gt, c_ge, c_eq, c_ne, c_eqS, c_neS, c_eq_tup, c_ne_tup, c_eq_lst, c_ne_lst, c_eq_bl, c_ne_bl, c_inT, c_ninT, i_int, i_intB, i_abs, i_dm, i_len_tup, i_len_lst, i_len_scr, i_max, i_min, i_gcd, i_isqrt, i_tuple1_tup, i_tuple1_lst, i_list1_tup, i_list1_lst, i_all, i_any, i_sum, i_repr_tup, i_repr_lst, i_repr_bl, i_repr_int, y_bl, y_int, y_str, y_tup, y_lst, y_non, it_tup, it_lst, it_scr, t_bl, t_int, t_tup, t_lst, t_non, w_cons, w_nil, wpS, wpE, wpEs, wpG, wpGs, wpI, wpT, startD, nb_fr, view_fr, it_fr, nb_int, nb_tup, nb_bl, nb_str, nb_lst, nb_scr, nb_non, nb_cell, nbs, g_name, g_tup, gsets, wipeD, noOw, itOk, view_int, view_tup, view_bl, view_str, view_lst, view_scr, view_non, at0, at1, at2, at3, ix0, ix1, ix2, tgN, List.map_cons, List.map_nil, List.append_nil, List.nil_append, List.cons_append, List.length_cons, List.length_nil, List.replicate_zero, List.replicate_succ, List.getElem?_cons_zero, List.getElem?_cons_succ, List.set_cons_zero, List.set_cons_succ, List.all_cons, List.all_nil, Bool.and_true, Bool.true_and, Nat.sub_self, Nat.add_sub_cancel_left, zeroNat, if_true, reduceCtorEq, true_and, and_true, ite_true, ite_false, Bool.false_eq_true, if_false, Nat.reduceAdd, Nat.reduceSub, Nat.reduceLT, Nat.zero_add, List.all, Bool.and_self, Int.reduceToNat, List.reduceReplicate, List.flatten_cons, List.flatten_nil, eq_self, permD, List.getD_cons_zero, List.getD_cons_succ, sIx21, List.take_succ_cons, List.take_zero, Nat.reduceLeDiff, and_self, decide_true, decide_false, Bool.not_true, Bool.not_false, half_D]
  refine h27 m half (x + y) 2 (b + b + 1) W _ half_B (bx.add by_) (by omega) ?_
  simp only [↓w_for, ↓w_lc, b_add, b_addT, b_addL, b_sub, b_mul, b_mulL, b_mulT, b_fdiv, b_mod, b_pow, c_lt, c_le, c_gt, c_ge, c_eq, c_ne, c_eqS, c_neS, c_eq_tup, c_ne_tup, c_eq_lst, c_ne_lst, c_eq_bl, c_ne_bl, c_inT, c_ninT, i_int, i_intB, i_abs, i_dm, i_len_tup, i_len_lst, i_len_scr, i_max, i_min, i_gcd, i_isqrt, i_tuple1_tup, i_tuple1_lst, i_list1_tup, i_list1_lst, i_all, i_any, i_sum, i_repr_tup, i_repr_lst, i_repr_bl, i_repr_int, y_bl, y_int, y_str, y_tup, y_lst, y_non, it_tup, it_lst, it_scr, t_bl, t_int, t_tup, t_lst, t_non, w_cons, w_nil, wpS, wpE, wpEs, wpG, wpGs, wpI, wpT, startD, nb_fr, view_fr, it_fr, nb_int, nb_tup, nb_bl, nb_str, nb_lst, nb_scr, nb_non, nb_cell, nbs, g_name, g_tup, gsets, wipeD, noOw, itOk, view_int, view_tup, view_bl, view_str, view_lst, view_scr, view_non, at0, at1, at2, at3, ix0, ix1, ix2, tgN, List.map_cons, List.map_nil, List.append_nil, List.nil_append, List.cons_append, List.length_cons, List.length_nil, List.replicate_zero, List.replicate_succ, List.getElem?_cons_zero, List.getElem?_cons_succ, List.set_cons_zero, List.set_cons_succ, List.all_cons, List.all_nil, Bool.and_true, Bool.true_and, Nat.sub_self, Nat.add_sub_cancel_left, zeroNat, if_true, reduceCtorEq, true_and, and_true, ite_true, ite_false, Bool.false_eq_true, if_false, Nat.reduceAdd, Nat.reduceSub, Nat.reduceLT, Nat.zero_add, List.all, Bool.and_self, Int.reduceToNat, List.reduceReplicate, List.flatten_cons, List.flatten_nil, eq_self, permD, List.getD_cons_zero, List.getD_cons_succ, sIx21, List.take_succ_cons, List.take_zero, Nat.reduceLeDiff, and_self, decide_true, decide_false, Bool.not_true, Bool.not_false]
  refine ⟨by decide, ?_⟩
  refine h26 m x y b b W _ bx by_ (by omega) ?_
  simp only [↓w_for, ↓w_lc, b_add, b_addT, b_addL, b_sub, b_mul, b_mulL, b_mulT, b_fdiv, b_mod, b_pow, c_lt, c_le, c_gt, c_ge, c_eq, c_ne, c_eqS, c_neS, c_eq_tup, c_ne_tup, c_eq_lst, c_ne_lst, c_eq_bl, c_ne_bl, c_inT, c_ninT, i_int, i_intB, i_abs, i_dm, i_len_tup, i_len_lst, i_len_scr, i_max, i_min, i_gcd, i_isqrt, i_tuple1_tup, i_tuple1_lst, i_list1_tup, i_list1_lst, i_all, i_any, i_sum, i_repr_tup, i_repr_lst, i_repr_bl, i_repr_int, y_bl, y_int, y_str, y_tup, y_lst, y_non, it_tup, it_lst, it_scr, t_bl, t_int, t_tup, t_lst, t_non, w_cons, w_nil, wpS, wpE, wpEs, wpG, wpGs, wpI, wpT, startD, nb_fr, view_fr, it_fr, nb_int, nb_tup, nb_bl, nb_str, nb_lst, nb_scr, nb_non, nb_cell, nbs, g_name, g_tup, gsets, wipeD, noOw, itOk, view_int, view_tup, view_bl, view_str, view_lst, view_scr, view_non, at0, at1, at2, at3, ix0, ix1, ix2, tgN, List.map_cons, List.map_nil, List.append_nil, List.nil_append, List.cons_append, List.length_cons, List.length_nil, List.replicate_zero, List.replicate_succ, List.getElem?_cons_zero, List.getElem?_cons_succ, List.set_cons_zero, List.set_cons_succ, List.all_cons, List.all_nil, Bool.and_true, Bool.true_and, Nat.sub_self, Nat.add_sub_cancel_left, zeroNat, if_true, reduceCtorEq, true_and, and_true, ite_true, ite_false, Bool.false_eq_true, if_false, Nat.reduceAdd, Nat.reduceSub, Nat.reduceLT, Nat.zero_add, List.all, Bool.and_self, Int.reduceToNat, List.reduceReplicate, List.flatten_cons, List.flatten_nil, eq_self, permD, List.getD_cons_zero, List.getD_cons_succ, sIx21, List.take_succ_cons, List.take_zero, Nat.reduceLeDiff, and_self, decide_true, decide_false, Bool.not_true, Bool.not_false]
  refine h29 (m + 2) _ W _ ?_
  simp only [↓w_for, ↓w_lc, b_add, b_addT, b_addL, b_sub, b_mul, b_mulL, b_mulT, b_fdiv, b_mod, b_pow, c_lt, c_le, c_gt, c_ge, c_eq, c_ne, c_eqS, c_neS, c_eq_tup, c_ne_tup, c_eq_lst, c_ne_lst, c_eq_bl, c_ne_bl, c_inT, c_ninT, i_int, i_intB, i_abs, i_dm, i_len_tup, i_len_lst, i_len_scr, i_max, i_min, i_gcd, i_isqrt, i_tuple1_tup, i_tuple1_lst, i_list1_tup, i_list1_lst, i_all, i_any, i_sum, i_repr_tup, i_repr_lst, i_repr_bl, i_repr_int, y_bl, y_int, y_str, y_tup, y_lst, y_non, it_tup, it_lst, it_scr, t_bl, t_int, t_tup, t_lst, t_non, w_cons, w_nil, wpS, wpE, wpEs, wpG, wpGs, wpI, wpT, startD, nb_fr, view_fr, it_fr, nb_int, nb_tup, nb_bl, nb_str, nb_lst, nb_scr, nb_non, nb_cell, nbs, g_name, g_tup, gsets, wipeD, noOw, itOk, view_int, view_tup, view_bl, view_str, view_lst, view_scr, view_non, at0, at1, at2, at3, ix0, ix1, ix2, tgN, List.map_cons, List.map_nil, List.append_nil, List.nil_append, List.cons_append, List.length_cons, List.length_nil, List.replicate_zero, List.replicate_succ, List.getElem?_cons_zero, List.getElem?_cons_succ, List.set_cons_zero, List.set_cons_succ, List.all_cons, List.all_nil, Bool.and_true, Bool.true_and, Nat.sub_self, Nat.add_sub_cancel_left, zeroNat, if_true, reduceCtorEq, true_and, and_true, ite_true, ite_false, Bool.false_eq_true, if_false, Nat.reduceAdd, Nat.reduceSub, Nat.reduceLT, Nat.zero_add, List.all, Bool.and_self, Int.reduceToNat, List.reduceReplicate, List.flatten_cons, List.flatten_nil, eq_self, permD, List.getD_cons_zero, List.getD_cons_succ, sIx21, List.take_succ_cons, List.take_zero, Nat.reduceLeDiff, and_self, decide_true, decide_false, Bool.not_true, Bool.not_false, half_D]
  refine h27 m half (absR (x - y)) 2 (b + b + 1) W _ half_B (bx.sub by_).abs (by omega) ?_
  simp only [↓w_for, ↓w_lc, b_add, b_addT, b_addL, b_sub, b_mul, b_mulL, b_mulT, b_fdiv, b_mod, b_pow, c_lt, c_le, c_gt, c_ge, c_eq, c_ne, c_eqS, c_neS, c_eq_tup, c_ne_tup, c_eq_lst, c_ne_lst, c_eq_bl, c_ne_bl, c_inT, c_ninT, i_int, i_intB, i_abs, i_dm, i_len_tup, i_len_lst, i_len_scr, i_max, i_min, i_gcd, i_isqrt, i_tuple1_tup, i_tuple1_lst, i_list1_tup, i_list1_lst, i_all, i_any, i_sum, i_repr_tup, i_repr_lst, i_repr_bl, i_repr_int, y_bl, y_int, y_str, y_tup, y_lst, y_non, it_tup, it_lst, it_scr, t_bl, t_int, t_tup, t_lst, t_non, w_cons, w_nil, wpS, wpE, wpEs, wpG, wpGs, wpI, wpT, startD, nb_fr, view_fr, it_fr, nb_int, nb_tup, nb_bl, nb_str, nb_lst, nb_scr, nb_non, nb_cell, nbs, g_name, g_tup, gsets, wipeD, noOw, itOk, view_int, view_tup, view_bl, view_str, view_lst, view_scr, view_non, at0, at1, at2, at3, ix0, ix1, ix2, tgN, List.map_cons, List.map_nil, List.append_nil, List.nil_append, List.cons_append, List.length_cons, List.length_nil, List.replicate_zero, List.replicate_succ, List.getElem?_cons_zero, List.getElem?_cons_succ, List.set_cons_zero, List.set_cons_succ, List.all_cons, List.all_nil, Bool.and_true, Bool.true_and, Nat.sub_self, Nat.add_sub_cancel_left, zeroNat, if_true, reduceCtorEq, true_and, and_true, ite_true, ite_false, Bool.false_eq_true, if_false, Nat.reduceAdd, Nat.reduceSub, Nat.reduceLT, Nat.zero_add, List.all, Bool.and_self, Int.reduceToNat, List.reduceReplicate, List.flatten_cons, List.flatten_nil, eq_self, permD, List.getD_cons_zero, List.getD_cons_succ, sIx21, List.take_succ_cons, List.take_zero, Nat.reduceLeDiff, and_self, decide_true, decide_false, Bool.not_true, Bool.not_false]
  exact ⟨by decide, hQ⟩
theorem inn_eq (c r c' r' : Rat) : (decide (c' - r' ≤ c - r) && decide (c + r ≤ c' + r')) = inn c r c' r' := by
  rw [Bool.eq_iff_iff, Bool.and_eq_true, decide_eq_true_eq, decide_eq_true_eq]
  unfold inn absR
  rw [Bool.not_eq_true', decide_eq_false_iff_not, Rat.not_lt]
  split <;> constructor <;> intro h <;> grind
theorem h38 (m : Nat) (c r c' r' : Rat) (W : Ce) (Q : D → Ce → Prop) (b1 : Bd 500 c) (b2 : Bd 500 r) (b3 : Bd 500 c') (b4 : Bd 500 r') (hQ : Q (.bl (inn c r c' r')) W) : wpC fs cs (m + 5) 38 [dsc c r, dsc c' r'] W Q := by
  rw [← inn_eq] at hQ
  refine wpC_step (f := f38) rfl rfl ?_
  simp only [f38, ↓w_for, ↓w_lc, b_add, b_addT, b_addL, b_sub, b_mul, b_mulL, b_mulT, b_fdiv, b_mod, b_pow, c_lt, c_le, c_gt, c_ge, c_eq, c_ne, c_eqS, c_neS, c_eq_tup, c_ne_tup, c_eq_lst, c_ne_lst, c_eq_bl, c_ne_bl, c_inT, c_ninT, i_int, i_intB, i_abs, i_dm, i_len_tup, i_len_lst, i_len_scr, i_max, i_min, i_gcd, i_isqrt, i_tuple1_tup, i_tuple1_lst, i_list1_tup, i_list1_lst, i_all, i_any, i_sum, i_repr_tup, i_repr_lst, i_repr_bl, i_repr_int, y_bl, y_int, y_str, y_tup, y_lst, y_non, it_tup, it_lst, it_scr, t_bl, t_int, t_tup, t_lst, t_non, w_cons, w_nil, wpS, wpE, wpEs, wpG, wpGs, wpI, wpT, startD, nb_fr, view_fr, it_fr, nb_int, nb_tup, nb_bl, nb_str, nb_lst, nb_scr, nb_non, nb_cell, nbs, g_name, g_tup, gsets, wipeD, noOw, itOk, view_int, view_tup, view_bl, view_str, view_lst, view_scr, view_non, at0, at1, at2, at3, ix0, ix1, ix2, tgN, List.map_cons, List.map_nil, List.append_nil, List.nil_append, List.cons_append, List.length_cons, List.length_nil, List.replicate_zero, List.replicate_succ, List.getElem?_cons_zero, List.getElem?_cons_succ, List.set_cons_zero, List.set_cons_succ, List.all_cons, List.all_nil, Bool.and_true, Bool.true_and, Nat.sub_self, Nat.add_sub_cancel_left, zeroNat, if_true, reduceCtorEq, true_and, and_true, ite_true, ite_false, Bool.false_eq_true, if_false, Nat.reduceAdd, Nat.reduceSub, Nat.reduceLT, Nat.zero_add, List.all, Bool.and_self, Int.reduceToNat, List.reduceReplicate, List.flatten_cons, List.flatten_nil, eq_self, permD, List.getD_cons_zero, List.getD_cons_succ, sIx21, List.take_succ_cons, List.take_zero, Nat.reduceLeDiff, and_self, decide_true, decide_false, Bool.not_true, Bool.not_false, dsc_nb]
  refine h36 m c r 500 W _ b1 b2 (by decide) ?_
  simp only [↓w_for, ↓w_lc, b_add, b_addT, b_addL, b_sub, b_mul, b_mulL, b_mulT, b_fdiv, b_mod, b_pow, c_lt, c_le, c_gt, c_ge, c_eq, c_ne, c_eqS, c_neS, c_eq_tup, c_ne_tup, c_eq_lst, c_ne_lst, c_eq_bl, c_ne_bl, c_inT, c_ninT, i_int, i_intB, i_abs, i_dm, i_len_tup, i_len_lst, i_len_scr, i_max, i_min, i_gcd, i_isqrt, i_tuple1_tup, i_tuple1_lst, i_list1_tup, i_list1_lst, i_all, i_any, i_sum, i_repr_tup, i_repr_lst, i_repr_bl, i_repr_int, y_bl, y_int, y_str, y_tup, y_lst, y_non, it_tup, it_lst, it_scr, t_bl, t_int, t_tup, t_lst, t_non, w_cons, w_nil, wpS, wpE, wpEs, wpG, wpGs, wpI, wpT, startD, nb_fr, view_fr, it_fr, nb_int, nb_tup, nb_bl, nb_str, nb_lst, nb_scr, nb_non, nb_cell, nbs, g_name, g_tup, gsets, wipeD, noOw, itOk, view_int, view_tup, view_bl, view_str, view_lst, view_scr, view_non, at0, at1, at2, at3, ix0, ix1, ix2, tgN, List.map_cons, List.map_nil, List.append_nil, List.nil_append, List.cons_append, List.length_cons, List.length_nil, List.replicate_zero, List.replicate_succ, List.getElem?_cons_zero, List.getElem?_cons_succ, List.set_cons_zero, List.set_cons_succ, List.all_cons, List.all_nil, Bool.and_true, Bool.true_and, Nat.sub_self, Nat.add_sub_cancel_left, zeroNat, if_true, reduceCtorEq, true_and, and_true, ite_true, ite_false, Bool.false_eq_true, if_false, Nat.reduceAdd, Nat.reduceSub, Nat.reduceLT, Nat.zero_add, List.all, Bool.and_self, Int.reduceToNat, List.reduceReplicate, List.flatten_cons, List.flatten_nil, eq_self, permD, List.getD_cons_zero, List.getD_cons_succ, sIx21, List.take_succ_cons, List.take_zero, Nat.reduceLeDiff, and_self, decide_true, decide_false, Bool.not_true, Bool.not_false, dsc_nb]
  refine h36 m c' r' 500 W _ b3 b4 (by decide) ?_
  simp only [↓w_for, ↓w_lc, b_add, b_addT, b_addL, b_sub, b_mul, b_mulL, b_mulT, b_fdiv, b_mod, b_pow, c_lt, c_le, c_gt, c_ge, c_eq, c_ne, c_eqS, c_neS, c_eq_tup, c_ne_tup, c_eq_lst, c_ne_lst, c_eq_bl, c_ne_bl, c_inT, c_ninT, i_int, i_intB, i_abs, i_dm, i_len_tup, i_len_lst, i_len_scr, i_max, i_min, i_gcd, i_isqrt, i_tuple1_tup, i_tuple1_lst, i_list1_tup, i_list1_lst, i_all, i_any, i_sum, i_repr_tup, i_repr_lst, i_repr_bl, i_repr_int, y_bl, y_int, y_str, y_tup, y_lst, y_non, it_tup, it_lst, it_scr, t_bl, t_int, t_tup, t_lst, t_non, w_cons, w_nil, wpS, wpE, wpEs, wpG, wpGs, wpI, wpT, startD, nb_fr, view_fr, it_fr, nb_int, nb_tup, nb_bl, nb_str, nb_lst, nb_scr, nb_non, nb_cell, nbs, g_name, g_tup, gsets, wipeD, noOw, itOk, view_int, view_tup, view_bl, view_str, view_lst, view_scr, view_non, at0, at1, at2, at3, ix0, ix1, ix2, tgN, List.map_cons, List.map_nil, List.append_nil, List.nil_append, List.cons_append, List.length_cons, List.length_nil, List.replicate_zero, List.replicate_succ, List.getElem?_cons_zero, List.getElem?_cons_succ, List.set_cons_zero, List.set_cons_succ, List.all_cons, List.all_nil, Bool.and_true, Bool.true_and, Nat.sub_self, Nat.add_sub_cancel_left, zeroNat, if_true, reduceCtorEq, true_and, and_true, ite_true, ite_false, Bool.false_eq_true, if_false, Nat.reduceAdd, Nat.reduceSub, Nat.reduceLT, Nat.zero_add, List.all, Bool.and_self, Int.reduceToNat, List.reduceReplicate, List.flatten_cons, List.flatten_nil, eq_self, permD, List.getD_cons_zero, List.getD_cons_succ, sIx21, List.take_succ_cons, List.take_zero, Nat.reduceLeDiff, and_self, decide_true, decide_false, Bool.not_true, Bool.not_false, dsc_nb]
  refine rest_go ?_
  simp only [↓w_for, ↓w_lc, b_add, b_addT, b_addL, b_sub, b_mul, b_mulL, b_mulT, b_fdiv, b_mod, b_pow, c_lt, c_le, c_gt, c_ge, c_eq, c_ne, c_eqS, c_neS, c_eq_tup, c_ne_tup, c_eq_lst, c_ne_lst, c_eq_bl, c_ne_bl, c_inT, c_ninT, i_int, i_intB, i_abs, i_dm, i_len_tup, i_len_lst, i_len_scr, i_max, i_min, i_gcd, i_isqrt, i_tuple1_tup, i_tuple1_lst, i_list1_tup, i_list1_lst, i_all, i_any, i_sum, i_repr_tup, i_repr_lst, i_repr_bl, i_repr_int, y_bl, y_int, y_str, y_tup, y_lst, y_non, it_tup, it_lst, it_scr, t_bl, t_int, t_tup, t_lst, t_non, w_cons, w_nil, wpS, wpE, wpEs, wpG, wpGs, wpI, wpT, startD, nb_fr, view_fr, it_fr, nb_int, nb_tup, nb_bl, nb_str, nb_lst, nb_scr, nb_non, nb_cell, nbs, g_name, g_tup, gsets, wipeD, noOw, itOk, view_int, view_tup, view_bl, view_str, view_lst, view_scr, view_non, at0, at1, at2, at3, ix0, ix1, ix2, tgN, List.map_cons, List.map_nil, List.append_nil, List.nil_append, List.cons_append, List.length_cons, List.length_nil, List.replicate_zero, List.replicate_succ, List.getElem?_cons_zero, List.getElem?_cons_succ, List.set_cons_zero, List.set_cons_succ, List.all_cons, List.all_nil, Bool.and_true, Bool.true_and, Nat.sub_self, Nat.add_sub_cancel_left, zeroNat, if_true, reduceCtorEq, true_and, and_true, ite_true, ite_false, Bool.false_eq_true, if_false, Nat.reduceAdd, Nat.reduceSub, Nat.reduceLT, Nat.zero_add, List.all, Bool.and_self, Int.reduceToNat, List.reduceReplicate, List.flatten_cons, List.flatten_nil, eq_self, permD, List.getD_cons_zero, List.getD_cons_succ, sIx21, List.take_succ_cons, List.take_zero, Nat.reduceLeDiff, and_self, decide_true, decide_false, Bool.not_true, Bool.not_false, dsc_nb, dsc_view, dsc_it]
  refine h28 (m + 3) _ _ 1001 1001 W _ (b3.sub b4) (b1.sub b2) (by decide) ?_
  simp only [↓w_for, ↓w_lc, b_add, b_addT, b_addL, b_sub, b_mul, b_mulL, b_mulT, b_fdiv, b_mod, b_pow, c_lt, c_le, c_gt, c_ge, c_eq, c_ne, c_eqS, c_neS, c_eq_tup, c_ne_tup, c_eq_lst, c_ne_lst, c_eq_bl, c_ne_bl, c_inT, c_ninT, i_int, i_intB, i_abs, i_dm, i_len_tup, i_len_lst, i_len_scr, i_max, i_min, i_gcd, i_isqrt, i_tuple1_tup, i_tuple1_lst, i_list1_tup, i_list1_lst, i_all, i_any, i_sum, i_repr_tup, i_repr_lst, i_repr_bl, i_repr_int, y_bl, y_int, y_str, y_tup, y_lst, y_non, it_tup, it_lst, it_scr, t_bl, t_int, t_tup, t_lst, t_non, w_cons, w_nil, wpS, wpE, wpEs, wpG, wpGs, wpI, wpT, startD, nb_fr, view_fr, it_fr, nb_int, nb_tup, nb_bl, nb_str, nb_lst, nb_scr, nb_non, nb_cell, nbs, g_name, g_tup, gsets, wipeD, noOw, itOk, view_int, view_tup, view_bl, view_str, view_lst, view_scr, view_non, at0, at1, at2, at3, ix0, ix1, ix2, tgN, List.map_cons, List.map_nil, List.append_nil, List.nil_append, List.cons_append, List.length_cons, List.length_nil, List.replicate_zero, List.replicate_succ, List.getElem?_cons_zero, List.getElem?_cons_succ, List.set_cons_zero, List.set_cons_succ, List.all_cons, List.all_nil, Bool.and_true, Bool.true_and, Nat.sub_self, Nat.add_sub_cancel_left, zeroNat, if_true, reduceCtorEq, true_and, and_true, ite_true, ite_false, Bool.false_eq_true, if_false, Nat.reduceAdd, Nat.reduceSub, Nat.reduceLT, Nat.zero_add, List.all, Bool.and_self, Int.reduceToNat, List.reduceReplicate, List.flatten_cons, List.flatten_nil, eq_self, permD, List.getD_cons_zero, List.getD_cons_succ, sIx21, List.take_succ_cons, List.take_zero, Nat.reduceLeDiff, and_self, decide_true, decide_false, Bool.not_true, Bool.not_false, dsc_nb, dsc_view, dsc_it, bey_le]
  cases hd : decide (c' - r' ≤ c - r) with
  | false =>
    simp only [hd, Bool.false_and] at hQ
    simp only [↓w_for, ↓w_lc, b_add, b_addT, b_addL, b_sub, b_mul, b_mulL, b_mulT, b_fdiv, b_mod, b_pow, c_lt, c_le, c_gt, c_ge, c_eq, c_ne, c_eqS, c_neS, c_eq_tup, c_ne_tup, c_eq_lst, c_ne_lst, c_eq_bl, c_ne_bl, c_inT, c_ninT, i_int, i_intB, i_abs, i_dm, i_len_tup, i_len_lst, i_len_scr, i_max, i_min, i_gcd, i_isqrt, i_tuple1_tup, i_tuple1_lst, i_list1_tup, i_list1_lst, i_all, i_any, i_sum, i_repr_tup, i_repr_lst, i_repr_bl, i_repr_int, y_bl, y_int, y_str, y_tup, y_lst, y_non, it_tup, it_lst, it_scr, t_bl, t_int, t_tup, t_lst, t_non, w_cons, w_nil, wpS, wpE, wpEs, wpG, wpGs, wpI, wpT, startD, nb_fr, view_fr, it_fr, nb_int, nb_tup, nb_bl, nb_str, nb_lst, nb_scr, nb_non, nb_cell, nbs, g_name, g_tup, gsets, wipeD, noOw, itOk, view_int, view_tup, view_bl, view_str, view_lst, view_scr, view_non, at0, at1, at2, at3, ix0, ix1, ix2, tgN, List.map_cons, List.map_nil, List.append_nil, List.nil_append, List.cons_append, List.length_cons, List.length_nil, List.replicate_zero, List.replicate_succ, List.getElem?_cons_zero, List.getElem?_cons_succ, List.set_cons_zero, List.set_cons_succ, List.all_cons, List.all_nil, Bool.and_true, Bool.true_and, Nat.sub_self, Nat.add_sub_cancel_left, zeroNat, if_true, reduceCtorEq, true_and, and_true, ite_true, ite_false, Bool.false_eq_true, if_false, Nat.reduceAdd, Nat.reduceSub, Nat.reduceLT, Nat.zero_add, List.all, Bool.and_self, Int.reduceToNat, List.reduceReplicate, List.flatten_cons, List.flatten_nil, eq_self, permD, List.getD_cons_zero, List.getD_cons_succ, sIx21, List.take_succ_cons, List.take_zero, Nat.reduceLeDiff, and_self, decide_true, decide_false, Bool.not_true, Bool.not_false]
    exact hQ
  | true =>
    simp only [hd, Bool.true_and] at hQ
    simp only [↓w_for, ↓w_lc, b_add, b_addT, b_addL, b_sub, b_mul, b_mulL, b_mulT, b_fdiv, b_mod, b_pow, c_lt, c_le, c_gt, c_ge, c_eq, c_ne, c_eqS, c_neS, c_eq_tup, c_ne_tup, c_eq_lst, c_ne_lst, c_eq_bl, c_ne_bl, c_inT, c_ninT, i_int, i_intB, i_abs, i_dm, i_len_tup, i_len_lst, i_len_scr, i_max, i_min, i_gcd, i_isqrt, i_tuple1_tup, i_tuple1_lst, i_list1_tup, i_list1_lst, i_all, i_any, i_sum, i_repr_tup, i_repr_lst, i_repr_bl, i_repr_int, y_bl, y_int, y_str, y_tup, y_lst, y_non, it_tup, it_lst, it_scr, t_bl, t_int, t_tup, t_lst, t_non, w_cons, w_nil, wpS, wpE, wpEs, wpG, wpGs, wpI, wpT, startD, nb_fr, view_fr, it_fr, nb_int, nb_tup, nb_bl, nb_str, nb_lst, nb_scr, nb_non, nb_cell, nbs, g_name, g_tup, gsets, wipeD, noOw, itOk, view_int, view_tup, view_bl, view_str, view_lst, view_scr, view_non, at0, at1, at2, at3, ix0, ix1, ix2, tgN, List.map_cons, List.map_nil, List.append_nil, List.nil_append, List.cons_append, List.length_cons, List.length_nil, List.replicate_zero, List.replicate_succ, List.getElem?_cons_zero, List.getElem?_cons_succ, List.set_cons_zero, List.set_cons_succ, List.all_cons, List.all_nil, Bool.and_true, Bool.true_and, Nat.sub_self, Nat.add_sub_cancel_left, zeroNat, if_true, reduceCtorEq, true_and, and_true, ite_true, ite_false, Bool.false_eq_true, if_false, Nat.reduceAdd, Nat.reduceSub, Nat.reduceLT, Nat.zero_add, List.all, Bool.and_self, Int.reduceToNat, List.reduceReplicate, List.flatten_cons, List.flatten_nil, eq_self, permD, List.getD_cons_zero, List.getD_cons_succ, sIx21, List.take_succ_cons, List.take_zero, Nat.reduceLeDiff, and_self, decide_true, decide_false, Bool.not_true, Bool.not_false]
    refine h28 (m + 3) _ _ 1001 1001 W _ (b1.add b2) (b3.add b4) (by decide) ?_
    simp only [↓w_for, ↓w_lc, b_add, b_addT, b_addL, b_sub, b_mul, b_mulL, b_mulT, b_fdiv, b_mod, b_pow, c_lt, c_le, c_gt, c_ge, c_eq, c_ne, c_eqS, c_neS, c_eq_tup, c_ne_tup, c_eq_lst, c_ne_lst, c_eq_bl, c_ne_bl, c_inT, c_ninT, i_int, i_intB, i_abs, i_dm, i_len_tup, i_len_lst, i_len_scr, i_max, i_min, i_gcd, i_isqrt, i_tuple1_tup, i_tuple1_lst, i_list1_tup, i_list1_lst, i_all, i_any, i_sum, i_repr_tup, i_repr_lst, i_repr_bl, i_repr_int, y_bl, y_int, y_str, y_tup, y_lst, y_non, it_tup, it_lst, it_scr, t_bl, t_int, t_tup, t_lst, t_non, w_cons, w_nil, wpS, wpE, wpEs, wpG, wpGs, wpI, wpT, startD, nb_fr, view_fr, it_fr, nb_int, nb_tup, nb_bl, nb_str, nb_lst, nb_scr, nb_non, nb_cell, nbs, g_name, g_tup, gsets, wipeD, noOw, itOk, view_int, view_tup, view_bl, view_str, view_lst, view_scr, view_non, at0, at1, at2, at3, ix0, ix1, ix2, tgN, List.map_cons, List.map_nil, List.append_nil, List.nil_append, List.cons_append, List.length_cons, List.length_nil, List.replicate_zero, List.replicate_succ, List.getElem?_cons_zero, List.getElem?_cons_succ, List.set_cons_zero, List.set_cons_succ, List.all_cons, List.all_nil, Bool.and_true, Bool.true_and, Nat.sub_self, Nat.add_sub_cancel_left, zeroNat, if_true, reduceCtorEq, true_and, and_true, ite_true, ite_false, Bool.false_eq_true, if_false, Nat.reduceAdd, Nat.reduceSub, Nat.reduceLT, Nat.zero_add, List.all, Bool.and_self, Int.reduceToNat, List.reduceReplicate, List.flatten_cons, List.flatten_nil, eq_self, permD, List.getD_cons_zero, List.getD_cons_succ, sIx21, List.take_succ_cons, List.take_zero, Nat.reduceLeDiff, and_self, decide_true, decide_false, Bool.not_true, Bool.not_false, bey_le]
    exact hQ
theorem sum_eq {c r c' r' : Rat} (p : 0 ≤ r) (p' : 0 ≤ r') : dsc (half * (c - r + (c' - r') + (c + r + (c' + r')))) (half * absR (c - r + (c' - r') - (c + r + (c' + r')))) = dsc (c + c') (r + r') := by
  have e1 : half * (c - r + (c' - r') + (c + r + (c' + r'))) = c + c' := by rw [half_eq]; grind
  have e2 : half * absR (c - r + (c' - r') - (c + r + (c' + r'))) = r + r' := by
    rw [half_eq]
    unfold absR
    split <;> grind
  rw [e1, e2]
theorem h39 (m : Nat) (c r c' r' : Rat) (W : Ce) (Q : D → Ce → Prop) (b1 : Bd 200 c) (b2 : Bd 200 r) (b3 : Bd 200 c') (b4 : Bd 200 r') (p : 0 ≤ r) (p' : 0 ≤ r') (hQ : Q (dsc (c + c') (r + r')) W) : wpC fs cs (m + 5) 39 [dsc c r, dsc c' r'] W Q := by
  rw [← sum_eq p p'] at hQ
  refine wpC_step (f := f39) rfl rfl ?_
  simp only [f39, ↓w_for, ↓w_lc, b_add, b_addT, b_addL, b_sub, b_mul, b_mulL, b_mulT, b_fdiv, b_mod, b_pow, c_lt, c_le, c_gt, c_ge, c_eq, c_ne, c_eqS, c_neS, c_eq_tup, c_ne_tup, c_eq_lst, c_ne_lst, c_eq_bl, c_ne_bl, c_inT, c_ninT, i_int, i_intB, i_abs, i_dm, i_len_tup, i_len_lst, i_len_scr, i_max, i_min, i_gcd, i_isqrt, i_tuple1_tup, i_tuple1_lst, i_list1_tup, i_list1_lst, i_all, i_any, i_sum, i_repr_tup, i_repr_lst, i_repr_bl, i_repr_int, y_bl, y_int, y_str, y_tup, y_lst, y_non, it_tup, it_lst, it_scr, t_bl, t_int, t_tup, t_lst, t_non, w_cons, w_nil, wpS, wpE, wpEs, wpG, wpGs, wpI, wpT, startD, nb_fr, view_fr, it_fr, nb_int, nb_tup, nb_bl, nb_str, nb_lst, nb_scr, nb_non, nb_cell, nbs, g_name, g_tup, gsets, wipeD, noOw, itOk, view_int, view_tup, view_bl, view_str, view_lst, view_scr, view_non, at0, at1, at2, at3, ix0, ix1, ix2, tgN, List.map_cons, List.map_nil, List.append_nil, List.nil_append, List.cons_append, List.length_cons, List.length_nil, List.replicate_zero, List.replicate_succ, List.getElem?_cons_zero, List.getElem?_cons_succ, List.set_cons_zero, List.set_cons_succ, List.all_cons, List.all_nil, Bool.and_true, Bool.true_and, Nat.sub_self, Nat.add_sub_cancel_left, zeroNat, if_true, reduceCtorEq, true_and, and_true, ite_true, ite_false, Bool.false_eq_true, if_false, Nat.reduceAdd, Nat.reduceSub, Nat.reduceLT, Nat.zero_add, List.all, Bool.and_self, Int.reduceToNat, List.reduceReplicate, List.flatten_cons, List.flatten_nil, eq_self, permD, List.getD_cons_zero, List.getD_cons_succ, sIx21, List.take_succ_cons, List.take_zero, Nat.reduceLeDiff, and_self, decide_true, decide_false, Bool.not_true, Bool.not_false, dsc_nb]
  refine h36 m c r 200 W _ b1 b2 (by decide) ?_
  simp only [↓w_for, ↓w_lc, b_add, b_addT, b_addL, b_sub, b_mul, b_mulL, b_mulT, b_fdiv, b_mod, b_pow, c_lt, c_le, c_gt, c_ge, c_eq, c_ne, c_eqS, c_neS, c_eq_tup, c_ne_tup, c_eq_lst, c_ne_lst, c_eq_bl, c_ne_bl, c_inT, c_ninT, i_int, i_intB, i_abs, i_dm, i_len_tup, i_len_lst, i_len_scr, i_max, i_min, i_gcd, i_isqrt, i_tuple1_tup, i_tuple1_lst, i_list1_tup, i_list1_lst, i_all, i_any, i_sum, i_repr_tup, i_repr_lst, i_repr_bl, i_repr_int, y_bl, y_int, y_str, y_tup, y_lst, y_non, it_tup, it_lst, it_scr, t_bl, t_int, t_tup, t_lst, t_non, w_cons, w_nil, wpS, wpE, wpEs, wpG, wpGs, wpI, wpT, startD, nb_fr, view_fr, it_fr, nb_int, nb_tup, nb_bl, nb_str, nb_lst, nb_scr, nb_non, nb_cell, nbs, g_name, g_tup, gsets, wipeD, noOw, itOk, view_int, view_tup, view_bl, view_str, view_lst, view_scr, view_non, at0, at1, at2, at3, ix0, ix1, ix2, tgN, List.map_cons, List.map_nil, List.append_nil, List.nil_append, List.cons_append, List.length_cons, List.length_nil, List.replicate_zero, List.replicate_succ, List.getElem?_cons_zero, List.getElem?_cons_succ, List.set_cons_zero, List.set_cons_succ, List.all_cons, List.all_nil, Bool.and_true, Bool.true_and, Nat.sub_self, Nat.add_sub_cancel_left, zeroNat, if_true, reduceCtorEq, true_and, and_true, ite_true, ite_false, Bool.false_eq_true, if_false, Nat.reduceAdd, Nat.reduceSub, Nat.reduceLT, Nat.zero_add, List.all, Bool.and_self, Int.reduceToNat, List.reduceReplicate, List.flatten_cons, List.flatten_nil, eq_self, permD, List.getD_cons_zero, List.getD_cons_succ, sIx21, List.take_succ_cons, List.take_zero, Nat.reduceLeDiff, and_self, decide_true, decide_false, Bool.not_true, Bool.not_false, dsc_nb]
  refine h36 m c' r' 200 W _ b3 b4 (by decide) ?_
  simp only [↓w_for, ↓w_lc, b_add, b_addT, b_addL, b_sub, b_mul, b_mulL, b_mulT, b_fdiv, b_mod, b_pow, c_lt, c_le, c_gt, c_ge, c_eq, c_ne, c_eqS, c_neS, c_eq_tup, c_ne_tup, c_eq_lst, c_ne_lst, c_eq_bl, c_ne_bl, c_inT, c_ninT, i_int, i_intB, i_abs, i_dm, i_len_tup, i_len_lst, i_len_scr, i_max, i_min, i_gcd, i_isqrt, i_tuple1_tup, i_tuple1_lst, i_list1_tup, i_list1_lst, i_all, i_any, i_sum, i_repr_tup, i_repr_lst, i_repr_bl, i_repr_int, y_bl, y_int, y_str, y_tup, y_lst, y_non, it_tup, it_lst, it_scr, t_bl, t_int, t_tup, t_lst, t_non, w_cons, w_nil, wpS, wpE, wpEs, wpG, wpGs, wpI, wpT, startD, nb_fr, view_fr, it_fr, nb_int, nb_tup, nb_bl, nb_str, nb_lst, nb_scr, nb_non, nb_cell, nbs, g_name, g_tup, gsets, wipeD, noOw, itOk, view_int, view_tup, view_bl, view_str, view_lst, view_scr, view_non, at0, at1, at2, at3, ix0, ix1, ix2, tgN, List.map_cons, List.map_nil, List.append_nil, List.nil_append, List.cons_append, List.length_cons, List.length_nil, List.replicate_zero, List.replicate_succ, List.getElem?_cons_zero, List.getElem?_cons_succ, List.set_cons_zero, List.set_cons_succ, List.all_cons, List.all_nil, Bool.and_true, Bool.true_and, Nat.sub_self, Nat.add_sub_cancel_left, zeroNat, if_true, reduceCtorEq, true_and, and_true, ite_true, ite_false, Bool.false_eq_true, if_false, Nat.reduceAdd, Nat.reduceSub, Nat.reduceLT, Nat.zero_add, List.all, Bool.and_self, Int.reduceToNat, List.reduceReplicate, List.flatten_cons, List.flatten_nil, eq_self, permD, List.getD_cons_zero, List.getD_cons_succ, sIx21, List.take_succ_cons, List.take_zero, Nat.reduceLeDiff, and_self, decide_true, decide_false, Bool.not_true, Bool.not_false, dsc_nb]
  refine rest_go ?_
  simp only [↓w_for, ↓w_lc, b_add, b_addT, b_addL, b_sub, b_mul, b_mulL, b_mulT, b_fdiv, b_mod, b_pow, c_lt, c_le, c_gt, c_ge, c_eq, c_ne, c_eqS, c_neS, c_eq_tup, c_ne_tup, c_eq_lst, c_ne_lst, c_eq_bl, c_ne_bl, c_inT, c_ninT, i_int, i_intB, i_abs, i_dm, i_len_tup, i_len_lst, i_len_scr, i_max, i_min, i_gcd, i_isqrt, i_tuple1_tup, i_tuple1_lst, i_list1_tup, i_list1_lst, i_all, i_any, i_sum, i_repr_tup, i_repr_lst, i_repr_bl, i_repr_int, y_bl, y_int, y_str, y_tup, y_lst, y_non, it_tup, it_lst, it_scr, t_bl, t_int, t_tup, t_lst, t_non, w_cons, w_nil, wpS, wpE, wpEs, wpG, wpGs, wpI, wpT, startD, nb_fr, view_fr, it_fr, nb_int, nb_tup, nb_bl, nb_str, nb_lst, nb_scr, nb_non, nb_cell, nbs, g_name, g_tup, gsets, wipeD, noOw, itOk, view_int, view_tup, view_bl, view_str, view_lst, view_scr, view_non, at0, at1, at2, at3, ix0, ix1, ix2, tgN, List.map_cons, List.map_nil, List.append_nil, List.nil_append, List.cons_append, List.length_cons, List.length_nil, List.replicate_zero, List.replicate_succ, List.getElem?_cons_zero, List.getElem?_cons_succ, List.set_cons_zero, List.set_cons_succ, List.all_cons, List.all_nil, Bool.and_true, Bool.true_and, Nat.sub_self, Nat.add_sub_cancel_left, zeroNat, if_true, reduceCtorEq, true_and, and_true, ite_true, ite_false, Bool.false_eq_true, if_false, Nat.reduceAdd, Nat.reduceSub, Nat.reduceLT, Nat.zero_add, List.all, Bool.and_self, Int.reduceToNat, List.reduceReplicate, List.flatten_cons, List.flatten_nil, eq_self, permD, List.getD_cons_zero, List.getD_cons_succ, sIx21, List.take_succ_cons, List.take_zero, Nat.reduceLeDiff, and_self, decide_true, decide_false, Bool.not_true, Bool.not_false, dsc_nb, dsc_view, dsc_it]
  refine h25 (m + 1) _ _ 401 401 W _ (b1.sub b2) (b3.sub b4) (by decide) ?_
  simp only [↓w_for, ↓w_lc, b_add, b_addT, b_addL, b_sub, b_mul, b_mulL, b_mulT, b_fdiv, b_mod, b_pow, c_lt, c_le, c_gt, c_ge, c_eq, c_ne, c_eqS, c_neS, c_eq_tup, c_ne_tup, c_eq_lst, c_ne_lst, c_eq_bl, c_ne_bl, c_inT, c_ninT, i_int, i_intB, i_abs, i_dm, i_len_tup, i_len_lst, i_len_scr, i_max, i_min, i_gcd, i_isqrt, i_tuple1_tup, i_tuple1_lst, i_list1_tup, i_list1_lst, i_all, i_any, i_sum, i_repr_tup, i_repr_lst, i_repr_bl, i_repr_int, y_bl, y_int, y_str, y_tup, y_lst, y_non, it_tup, it_lst, it_scr, t_bl, t_int, t_tup, t_lst, t_non, w_cons, w_nil, wpS, wpE, wpEs, wpG, wpGs, wpI, wpT, startD, nb_fr, view_fr, it_fr, nb_int, nb_tup, nb_bl, nb_str, nb_lst, nb_scr, nb_non, nb_cell, nbs, g_name, g_tup, gsets, wipeD, noOw, itOk, view_int, view_tup, view_bl, view_str, view_lst, view_scr, view_non, at0, at1, at2, at3, ix0, ix1, ix2, tgN, List.map_cons, List.map_nil, List.append_nil, List.nil_append, List.cons_append, List.length_cons, List.length_nil, List.replicate_zero, List.replicate_succ, List.getElem?_cons_zero, List.getElem?_cons_succ, List.set_cons_zero, List.set_cons_succ, List.all_cons, List.all_nil, Bool.and_true, Bool.true_and, Nat.sub_self, Nat.add_sub_cancel_left, zeroNat, if_true, reduceCtorEq, true_and, and_true, ite_true, ite_false, Bool.false_eq_true, if_false, Nat.reduceAdd, Nat.reduceSub, Nat.reduceLT, Nat.zero_add, List.all, Bool.and_self, Int.reduceToNat, List.reduceReplicate, List.flatten_cons, List.flatten_nil, eq_self, permD, List.getD_cons_zero, List.getD_cons_succ, sIx21, List.take_succ_cons, List.take_zero, Nat.reduceLeDiff, and_self, decide_true, decide_false, Bool.not_true, Bool.not_false, dsc_nb, dsc_view, dsc_it]
  refine h25 (m + 1) _ _ 401 401 W _ (b1.add b2) (b3.add b4) (by decide) ?_
  simp only [↓w_for, ↓w_lc, b_add, b_addT, b_addL, b_sub, b_mul, b_mulL, b_mulT, b_fdiv, b_mod, b_pow, c_lt, c_le, c_gt, c_ge, c_eq, c_ne, c_eqS, c_neS, c_eq_tup, c_ne_tup, c_eq_lst, c_ne_lst, c_eq_bl, c_ne_bl, c_inT, c_ninT, i_int, i_intB, i_abs, i_dm, i_len_tup, i_len_lst, i_len_scr, i_max, i_min, i_gcd, i_isqrt, i_tuple1_tup, i_tuple1_lst, i_list1_tup, i_list1_lst, i_all, i_any, i_sum, i_repr_tup, i_repr_lst, i_repr_bl, i_repr_int, y_bl, y_int, y_str, y_tup, y_lst, y_non, it_tup, it_lst, it_scr, t_bl, t_int, t_tup, t_lst, t_non, w_cons, w_nil, wpS, wpE, wpEs, wpG, wpGs, wpI, wpT, startD, nb_fr, view_fr, it_fr, nb_int, nb_tup, nb_bl, nb_str, nb_lst, nb_scr, nb_non, nb_cell, nbs, g_name, g_tup, gsets, wipeD, noOw, itOk, view_int, view_tup, view_bl, view_str, view_lst, view_scr, view_non, at0, at1, at2, at3, ix0, ix1, ix2, tgN, List.map_cons, List.map_nil, List.append_nil, List.nil_append, List.cons_append, List.length_cons, List.length_nil, List.replicate_zero, List.replicate_succ, List.getElem?_cons_zero, List.getElem?_cons_succ, List.set_cons_zero, List.set_cons_succ, List.all_cons, List.all_nil, Bool.and_true, Bool.true_and, Nat.sub_self, Nat.add_sub_cancel_left, zeroNat, if_true, reduceCtorEq, true_and, and_true, ite_true, ite_false, Bool.false_eq_true, if_false, Nat.reduceAdd, Nat.reduceSub, Nat.reduceLT, Nat.zero_add, List.all, Bool.and_self, Int.reduceToNat, List.reduceReplicate, List.flatten_cons, List.flatten_nil, eq_self, permD, List.getD_cons_zero, List.getD_cons_succ, sIx21, List.take_succ_cons, List.take_zero, Nat.reduceLeDiff, and_self, decide_true, decide_false, Bool.not_true, Bool.not_false]
  refine h37 m _ _ 803 W _ ((b1.sub b2).add (b3.sub b4)) ((b1.add b2).add (b3.add b4)) (by decide) ?_
  simp only [dsc_nb, ↓w_for, ↓w_lc, b_add, b_addT, b_addL, b_sub, b_mul, b_mulL, b_mulT, b_fdiv, b_mod, b_pow, c_lt, c_le, c_gt, c_ge, c_eq, c_ne, c_eqS, c_neS, c_eq_tup, c_ne_tup, c_eq_lst, c_ne_lst, c_eq_bl, c_ne_bl, c_inT, c_ninT, i_int, i_intB, i_abs, i_dm, i_len_tup, i_len_lst, i_len_scr, i_max, i_min, i_gcd, i_isqrt, i_tuple1_tup, i_tuple1_lst, i_list1_tup, i_list1_lst, i_all, i_any, i_sum, i_repr_tup, i_repr_lst, i_repr_bl, i_repr_int, y_bl, y_int, y_str, y_tup, y_lst, y_non, it_tup, it_lst, it_scr, t_bl, t_int, t_tup, t_lst, t_non, w_cons, w_nil, wpS, wpE, wpEs, wpG, wpGs, wpI, wpT, startD, nb_fr, view_fr, it_fr, nb_int, nb_tup, nb_bl, nb_str, nb_lst, nb_scr, nb_non, nb_cell, nbs, g_name, g_tup, gsets, wipeD, noOw, itOk, view_int, view_tup, view_bl, view_str, view_lst, view_scr, view_non, at0, at1, at2, at3, ix0, ix1, ix2, tgN, List.map_cons, List.map_nil, List.append_nil, List.nil_append, List.cons_append, List.length_cons, List.length_nil, List.replicate_zero, List.replicate_succ, List.getElem?_cons_zero, List.getElem?_cons_succ, List.set_cons_zero, List.set_cons_succ, List.all_cons, List.all_nil, Bool.and_true, Bool.true_and, Nat.sub_self, Nat.add_sub_cancel_left, zeroNat, if_true, reduceCtorEq, true_and, and_true, ite_true, ite_false, Bool.false_eq_true, if_false, Nat.reduceAdd, Nat.reduceSub, Nat.reduceLT, Nat.zero_add, List.all, Bool.and_self, Int.reduceToNat, List.reduceReplicate, List.flatten_cons, List.flatten_nil, eq_self, permD, List.getD_cons_zero, List.getD_cons_succ, sIx21, List.take_succ_cons, List.take_zero, Nat.reduceLeDiff, and_self, decide_true, decide_false, Bool.not_true, Bool.not_false]
  exact hQ
theorem mul_eq' {c r q : Rat} (p : 0 ≤ r) : dsc (half * (q * (c - r) + q * (c + r))) (half * absR (q * (c - r) - q * (c + r))) = dsc (q * c) (absR q * r) := by
  have e1 : half * (q * (c - r) + q * (c + r)) = q * c := by rw [half_eq]; grind
  have e2 : half * absR (q * (c - r) - q * (c + r)) = absR q * r := by
    have e3 : q * (c - r) - q * (c + r) = -(2 * (q * r)) := by grind
    rw [half_eq, e3]
    unfold absR
    by_cases hq : q < 0
    · have h1 : 0 ≤ (-q) * r := Rat.mul_nonneg (by grind) p
      rw [if_pos hq]
      split <;> grind
    · have h1 : 0 ≤ q * r := Rat.mul_nonneg (by grind) p
      rw [if_neg hq]
      split <;> grind
  rw [e1, e2]
theorem h40 (m : Nat) (c r q : Rat) (W : Ce) (Q : D → Ce → Prop) (b1 : Bd 200 c) (b2 : Bd 200 r) (b3 : Bd 200 q) (p : 0 ≤ r) (hQ : Q (dsc (q * c) (absR q * r)) W) : wpC fs cs (m + 5) 40 [dsc c r, fr q] W Q := by
  rw [← mul_eq' p] at hQ
  refine wpC_step (f := f40) rfl rfl ?_
  simp only [f40, ↓w_for, ↓w_lc, b_add, b_addT, b_addL, b_sub, b_mul, b_mulL, b_mulT, b_fdiv, b_mod, b_pow, c_lt, c_le, c_gt, c_ge, c_eq, c_ne, c_eqS, c_neS, c_eq_tup, c_ne_tup, c_eq_lst, c_ne_lst, c_eq_bl, c_ne_bl, c_inT, c_ninT, i_int, i_intB, i_abs, i_dm, i_len_tup, i_len_lst, i_len_scr, i_max, i_min, i_gcd, i_isqrt, i_tuple1_tup, i_tuple1_lst, i_list1_tup, i_list1_lst, i_all, i_any, i_sum, i_repr_tup, i_repr_lst, i_repr_bl, i_repr_int, y_bl, y_int, y_str, y_tup, y_lst, y_non, it_tup, it_lst, it_scr, t_bl, t_int, t_tup, t_lst, t_non, w_cons, w_nil, wpS, wpE, wpEs, wpG, wpGs, wpI, wpT, startD, nb_fr, view_fr, it_fr, nb_int, nb_tup, nb_bl, nb_str, nb_lst, nb_scr, nb_non, nb_cell, nbs, g_name, g_tup, gsets, wipeD, noOw, itOk, view_int, view_tup, view_bl, view_str, view_lst, view_scr, view_non, at0, at1, at2, at3, ix0, ix1, ix2, tgN, List.map_cons, List.map_nil, List.append_nil, List.nil_append, List.cons_append, List.length_cons, List.length_nil, List.replicate_zero, List.replicate_succ, List.getElem?_cons_zero, List.getElem?_cons_succ, List.set_cons_zero, List.set_cons_succ, List.all_cons, List.all_nil, Bool.and_true, Bool.true_and, Nat.sub_self, Nat.add_sub_cancel_left, zeroNat, if_true, reduceCtorEq, true_and, and_true, ite_true, ite_false, Bool.false_eq_true, if_false, Nat.reduceAdd, Nat.reduceSub, Nat.reduceLT, Nat.zero_add, List.all, Bool.and_self, Int.reduceToNat, List.reduceReplicate, List.flatten_cons, List.flatten_nil, eq_self, permD, List.getD_cons_zero, List.getD_cons_succ, sIx21, List.take_succ_cons, List.take_zero, Nat.reduceLeDiff, and_self, decide_true, decide_false, Bool.not_true, Bool.not_false, dsc_nb]
  refine h36 m c r 200 W _ b1 b2 (by decide) ?_
  simp only [↓w_for, ↓w_lc, b_add, b_addT, b_addL, b_sub, b_mul, b_mulL, b_mulT, b_fdiv, b_mod, b_pow, c_lt, c_le, c_gt, c_ge, c_eq, c_ne, c_eqS, c_neS, c_eq_tup, c_ne_tup, c_eq_lst, c_ne_lst, c_eq_bl, c_ne_bl, c_inT, c_ninT, i_int, i_intB, i_abs, i_dm, i_len_tup, i_len_lst, i_len_scr, i_max, i_min, i_gcd, i_isqrt, i_tuple1_tup, i_tuple1_lst, i_list1_tup, i_list1_lst, i_all, i_any, i_sum, i_repr_tup, i_repr_lst, i_repr_bl, i_repr_int, y_bl, y_int, y_str, y_tup, y_lst, y_non, it_tup, it_lst, it_scr, t_bl, t_int, t_tup, t_lst, t_non, w_cons, w_nil, wpS, wpE, wpEs, wpG, wpGs, wpI, wpT, startD, nb_fr, view_fr, it_fr, nb_int, nb_tup, nb_bl, nb_str, nb_lst, nb_scr, nb_non, nb_cell, nbs, g_name, g_tup, gsets, wipeD, noOw, itOk, view_int, view_tup, view_bl, view_str, view_lst, view_scr, view_non, at0, at1, at2, at3, ix0, ix1, ix2, tgN, List.map_cons, List.map_nil, List.append_nil, List.nil_append, List.cons_append, List.length_cons, List.length_nil, List.replicate_zero, List.replicate_succ, List.getElem?_cons_zero, List.getElem?_cons_succ, List.set_cons_zero, List.set_cons_succ, List.all_cons, List.all_nil, Bool.and_true, Bool.true_and, Nat.sub_self, Nat.add_sub_cancel_left, zeroNat, if_true, reduceCtorEq, true_and, and_true, ite_true, ite_false, Bool.false_eq_true, if_false, Nat.reduceAdd, Nat.reduceSub, Nat.reduceLT, Nat.zero_add, List.all, Bool.and_self, Int.reduceToNat, List.reduceReplicate, List.flatten_cons, List.flatten_nil, eq_self, permD, List.getD_cons_zero, List.getD_cons_succ, sIx21, List.take_succ_cons, List.take_zero, Nat.reduceLeDiff, and_self, decide_true, decide_false, Bool.not_true, Bool.not_false, dsc_nb]
  refine rest_go ?_
  simp only [↓w_for, ↓w_lc, b_add, b_addT, b_addL, b_sub, b_mul, b_mulL, b_mulT, b_fdiv, b_mod, b_pow, c_lt, c_le, c_gt, c_ge, c_eq, c_ne, c_eqS, c_neS, c_eq_tup, c_ne_tup, c_eq_lst, c_ne_lst, c_eq_bl, c_ne_bl, c_inT, c_ninT, i_int, i_intB, i_abs, i_dm, i_len_tup, i_len_lst, i_len_scr, i_max, i_min, i_gcd, i_isqrt, i_tuple1_tup, i_tuple1_lst, i_list1_tup, i_list1_lst, i_all, i_any, i_sum, i_repr_tup, i_repr_lst, i_repr_bl, i_repr_int, y_bl, y_int, y_str, y_tup, y_lst, y_non, it_tup, it_lst, it_scr, t_bl, t_int, t_tup, t_lst, t_non, w_cons, w_nil, wpS, wpE, wpEs, wpG, wpGs, wpI, wpT, startD, nb_fr, view_fr, it_fr, nb_int, nb_tup, nb_bl, nb_str, nb_lst, nb_scr, nb_non, nb_cell, nbs, g_name, g_tup, gsets, wipeD, noOw, itOk, view_int, view_tup, view_bl, view_str, view_lst, view_scr, view_non, at0, at1, at2, at3, ix0, ix1, ix2, tgN, List.map_cons, List.map_nil, List.append_nil, List.nil_append, List.cons_append, List.length_cons, List.length_nil, List.replicate_zero, List.replicate_succ, List.getElem?_cons_zero, List.getElem?_cons_succ, List.set_cons_zero, List.set_cons_succ, List.all_cons, List.all_nil, Bool.and_true, Bool.true_and, Nat.sub_self, Nat.add_sub_cancel_left, zeroNat, if_true, reduceCtorEq, true_and, and_true, ite_true, ite_false, Bool.false_eq_true, if_false, Nat.reduceAdd, Nat.reduceSub, Nat.reduceLT, Nat.zero_add, List.all, Bool.and_self, Int.reduceToNat, List.reduceReplicate, List.flatten_cons, List.flatten_nil, eq_self, permD, List.getD_cons_zero, List.getD_cons_succ, sIx21, List.take_succ_cons, List.take_zero, Nat.reduceLeDiff, and_self, decide_true, decide_false, Bool.not_true, Bool.not_false, dsc_nb, dsc_view, dsc_it]
  refine h27 (m + 1) _ _ 200 401 W _ b3 (b1.sub b2) (by decide) ?_
  simp only [↓w_for, ↓w_lc, b_add, b_addT, b_addL, b_sub, b_mul, b_mulL, b_mulT, b_fdiv, b_mod, b_pow, c_lt, c_le, c_gt, c_ge, c_eq, c_ne, c_eqS, c_neS, c_eq_tup, c_ne_tup, c_eq_lst, c_ne_lst, c_eq_bl, c_ne_bl, c_inT, c_ninT, i_int, i_intB, i_abs, i_dm, i_len_tup, i_len_lst, i_len_scr, i_max, i_min, i_gcd, i_isqrt, i_tuple1_tup, i_tuple1_lst, i_list1_tup, i_list1_lst, i_all, i_any, i_sum, i_repr_tup, i_repr_lst, i_repr_bl, i_repr_int, y_bl, y_int, y_str, y_tup, y_lst, y_non, it_tup, it_lst, it_scr, t_bl, t_int, t_tup, t_lst, t_non, w_cons, w_nil, wpS, wpE, wpEs, wpG, wpGs, wpI, wpT, startD, nb_fr, view_fr, it_fr, nb_int, nb_tup, nb_bl, nb_str, nb_lst, nb_scr, nb_non, nb_cell, nbs, g_name, g_tup, gsets, wipeD, noOw, itOk, view_int, view_tup, view_bl, view_str, view_lst, view_scr, view_non, at0, at1, at2, at3, ix0, ix1, ix2, tgN, List.map_cons, List.map_nil, List.append_nil, List.nil_append, List.cons_append, List.length_cons, List.length_nil, List.replicate_zero, List.replicate_succ, List.getElem?_cons_zero, List.getElem?_cons_succ, List.set_cons_zero, List.set_cons_succ, List.all_cons, List.all_nil, Bool.and_true, Bool.true_and, Nat.sub_self, Nat.add_sub_cancel_left, zeroNat, if_true, reduceCtorEq, true_and, and_true, ite_true, ite_false, Bool.false_eq_true, if_false, Nat.reduceAdd, Nat.reduceSub, Nat.reduceLT, Nat.zero_add, List.all, Bool.and_self, Int.reduceToNat, List.reduceReplicate, List.flatten_cons, List.flatten_nil, eq_self, permD, List.getD_cons_zero, List.getD_cons_succ, sIx21, List.take_succ_cons, List.take_zero, Nat.reduceLeDiff, and_self, decide_true, decide_false, Bool.not_true, Bool.not_false, dsc_nb, dsc_view, dsc_it]
  refine h27 (m + 1) _ _ 200 401 W _ b3 (b1.add b2) (by decide) ?_
  simp only [↓w_for, ↓w_lc, b_add, b_addT, b_addL, b_sub, b_mul, b_mulL, b_mulT, b_fdiv, b_mod, b_pow, c_lt, c_le, c_gt, c_ge, c_eq, c_ne, c_eqS, c_neS, c_eq_tup, c_ne_tup, c_eq_lst, c_ne_lst, c_eq_bl, c_ne_bl, c_inT, c_ninT, i_int, i_intB, i_abs, i_dm, i_len_tup, i_len_lst, i_len_scr, i_max, i_min, i_gcd, i_isqrt, i_tuple1_tup, i_tuple1_lst, i_list1_tup, i_list1_lst, i_all, i_any, i_sum, i_repr_tup, i_repr_lst, i_repr_bl, i_repr_int, y_bl, y_int, y_str, y_tup, y_lst, y_non, it_tup, it_lst, it_scr, t_bl, t_int, t_tup, t_lst, t_non, w_cons, w_nil, wpS, wpE, wpEs, wpG, wpGs, wpI, wpT, startD, nb_fr, view_fr, it_fr, nb_int, nb_tup, nb_bl, nb_str, nb_lst, nb_scr, nb_non, nb_cell, nbs, g_name, g_tup, gsets, wipeD, noOw, itOk, view_int, view_tup, view_bl, view_str, view_lst, view_scr, view_non, at0, at1, at2, at3, ix0, ix1, ix2, tgN, List.map_cons, List.map_nil, List.append_nil, List.nil_append, List.cons_append, List.length_cons, List.length_nil, List.replicate_zero, List.replicate_succ, List.getElem?_cons_zero, List.getElem?_cons_succ, List.set_cons_zero, List.set_cons_succ, List.all_cons, List.all_nil, Bool.and_true, Bool.true_and, Nat.sub_self, Nat.add_sub_cancel_left, zeroNat, if_true, reduceCtorEq, true_and, and_true, ite_true, ite_false, Bool.false_eq_true, if_false, Nat.reduceAdd, Nat.reduceSub, Nat.reduceLT, Nat.zero_add, List.all, Bool.and_self, Int.reduceToNat, List.reduceReplicate, List.flatten_cons, List.flatten_nil, eq_self, permD, List.getD_cons_zero, List.getD_cons_succ, sIx21, List.take_succ_cons, List.take_zero, Nat.reduceLeDiff, and_self, decide_true, decide_false, Bool.not_true, Bool.not_false]
  refine h37 m _ _ 601 W _ (b3.mul (b1.sub b2)) (b3.mul (b1.add b2)) (by decide) ?_
  simp only [dsc_nb, ↓w_for, ↓w_lc, b_add, b_addT, b_addL, b_sub, b_mul, b_mulL, b_mulT, b_fdiv, b_mod, b_pow, c_lt, c_le, c_gt, c_ge, c_eq, c_ne, c_eqS, c_neS, c_eq_tup, c_ne_tup, c_eq_lst, c_ne_lst, c_eq_bl, c_ne_bl, c_inT, c_ninT, i_int, i_intB, i_abs, i_dm, i_len_tup, i_len_lst, i_len_scr, i_max, i_min, i_gcd, i_isqrt, i_tuple1_tup, i_tuple1_lst, i_list1_tup, i_list1_lst, i_all, i_any, i_sum, i_repr_tup, i_repr_lst, i_repr_bl, i_repr_int, y_bl, y_int, y_str, y_tup, y_lst, y_non, it_tup, it_lst, it_scr, t_bl, t_int, t_tup, t_lst, t_non, w_cons, w_nil, wpS, wpE, wpEs, wpG, wpGs, wpI, wpT, startD, nb_fr, view_fr, it_fr, nb_int, nb_tup, nb_bl, nb_str, nb_lst, nb_scr, nb_non, nb_cell, nbs, g_name, g_tup, gsets, wipeD, noOw, itOk, view_int, view_tup, view_bl, view_str, view_lst, view_scr, view_non, at0, at1, at2, at3, ix0, ix1, ix2, tgN, List.map_cons, List.map_nil, List.append_nil, List.nil_append, List.cons_append, List.length_cons, List.length_nil, List.replicate_zero, List.replicate_succ, List.getElem?_cons_zero, List.getElem?_cons_succ, List.set_cons_zero, List.set_cons_succ, List.all_cons, List.all_nil, Bool.and_true, Bool.true_and, Nat.sub_self, Nat.add_sub_cancel_left, zeroNat, if_true, reduceCtorEq, true_and, and_true, ite_true, ite_false, Bool.false_eq_true, if_false, Nat.reduceAdd, Nat.reduceSub, Nat.reduceLT, Nat.zero_add, List.all, Bool.and_self, Int.reduceToNat, List.reduceReplicate, List.flatten_cons, List.flatten_nil, eq_self, permD, List.getD_cons_zero, List.getD_cons_succ, sIx21, List.take_succ_cons, List.take_zero, Nat.reduceLeDiff, and_self, decide_true, decide_false, Bool.not_true, Bool.not_false]
  exact hQ
/-- a list of discs, all such -/
def Ds (xs : List (Rat × Rat)) : List D := xs.map fun p => dsc p.1 p.2
theorem rep_FT : (true :: true :: List.replicate 6 false) = [true, true, false, false, false, false, false, false] := rfl
theorem h41 (m : Nat) (xs : List (Rat × Rat)) (W : Ce) (Q : D → Ce → Prop) (hx : ∀ p ∈ xs, 0 ≤ p.2) (hQ : Q (.bl true) W) : wpC fs cs (m + 7) 41 [.lst (Ds xs)] W Q := by
  refine wpC_step (f := f41) rfl rfl ?_
  simp only [f41, ↓w_for, ↓w_lc, b_add, b_addT, b_addL, b_sub, b_mul, b_mulL, b_mulT, b_fdiv, b_mod, b_pow, c_lt, c_le, c_gt, c_ge, c_eq, c_ne, c_eqS, c_neS, c_eq_tup, c_ne_tup, c_eq_lst, c_ne_lst, c_eq_bl, c_ne_bl, c_inT, c_ninT, i_int, i_intB, i_abs, i_dm, i_len_tup, i_len_lst, i_len_scr, i_max, i_min, i_gcd, i_isqrt, i_tuple1_tup, i_tuple1_lst, i_list1_tup, i_list1_lst, i_all, i_any, i_sum, i_repr_tup, i_repr_lst, i_repr_bl, i_repr_int, y_bl, y_int, y_str, y_tup, y_lst, y_non, it_tup, it_lst, it_scr, t_bl, t_int, t_tup, t_lst, t_non, w_cons, w_nil, wpS, wpE, wpEs, wpG, wpGs, wpI, wpT, startD, nb_fr, view_fr, it_fr, nb_int, nb_tup, nb_bl, nb_str, nb_lst, nb_scr, nb_non, nb_cell, nbs, g_name, g_tup, gsets, wipeD, noOw, itOk, view_int, view_tup, view_bl, view_str, view_lst, view_scr, view_non, at0, at1, at2, at3, ix0, ix1, ix2, tgN, List.map_cons, List.map_nil, List.append_nil, List.nil_append, List.cons_append, List.length_cons, List.length_nil, List.replicate_zero, List.replicate_succ, List.getElem?_cons_zero, List.getElem?_cons_succ, List.set_cons_zero, List.set_cons_succ, List.all_cons, List.all_nil, Bool.and_true, Bool.true_and, Nat.sub_self, Nat.add_sub_cancel_left, zeroNat, if_true, reduceCtorEq, true_and, and_true, ite_true, ite_false, Bool.false_eq_true, if_false, Nat.reduceAdd, Nat.reduceSub, Nat.reduceLT, Nat.zero_add, List.all, Bool.and_self, Int.reduceToNat, List.reduceReplicate, List.flatten_cons, List.flatten_nil, eq_self, permD, List.getD_cons_zero, List.getD_cons_succ, sIx21, List.take_succ_cons, List.take_zero, Nat.reduceLeDiff, and_self, decide_true, decide_false, Bool.not_true, Bool.not_false]
  refine forL_rest (P := fun r σ W' => ∃ (ks : List (Rat × Rat)) (z1 z2 z3 : SV), σ = [.sh (.lst (Ds xs)), z1, z2, z3, .no] ∧ r = Ds ks ∧ (∀ p ∈ ks, 0 ≤ p.2) ∧ W' = W) ?_ ?_ _ _ _ ⟨xs, _, _, _, rfl, rfl, hx, rfl⟩
  · rintro x r σ W' e ⟨ks, z1, z2, z3, rfl, hk, hp, rfl⟩ hn hc hr hb
    cases ks with
    | nil => cases hk
    | cons p ks =>
      cases hk
      obtain ⟨c, r⟩ := p
      have pr : 0 ≤ r := hp (c, r) List.mem_cons_self
      have e1 : (!(isDsc (.lst [fr c, fr r]) || isDsc (.tup [fr c, fr r, .tup [.int 0, .int 1]]) || isDsc (.tup [fr c]))) = true := rfl
      have e2 : isDsc (.tup [fr c, .tup [.int (-1), .int 3]]) = false := by
        simp only [isDsc, isRat_fr]
        decide
      have e3 : isDsc (.tup [.tup [.int 2, .int 2], fr r]) = false := by
        have : isRat (.tup [.int 2, .int 2]) = false := by decide
        simp only [isDsc, this]
        rfl
      have e4 : isDsc (.tup [fr c, .lst [.int 0, .int 1]]) = false := by
        have : isFrom (.lst [.int 0, .int 1]) = false := rfl
        simp only [isDsc, this, Bool.and_false]
      have rp1 := repr_ok (d := .lst [.bl true, .bl true, .bl false, .bl false, .bl false, .bl false, .bl false, .bl false]) (by simp only [D.rp, rps]; exact ⟨trivial, trivial, trivial, trivial, trivial, trivial, trivial, trivial, trivial⟩) rfl rfl
      simp only [forB, dsc, ↓w_for, ↓w_lc, b_add, b_addT, b_addL, b_sub, b_mul, b_mulL, b_mulT, b_fdiv, b_mod, b_pow, c_lt, c_le, c_gt, c_ge, c_eq, c_ne, c_eqS, c_neS, c_eq_tup, c_ne_tup, c_eq_lst, c_ne_lst, c_eq_bl, c_ne_bl, c_inT, c_ninT, i_int, i_intB, i_abs, i_dm, i_len_tup, i_len_lst, i_len_scr, i_max, i_min, i_gcd, i_isqrt, i_tuple1_tup, i_tuple1_lst, i_list1_tup, i_list1_lst, i_all, i_any, i_sum, i_repr_tup, i_repr_lst, i_repr_bl, i_repr_int, y_bl, y_int, y_str, y_tup, y_lst, y_non, it_tup, it_lst, it_scr, t_bl, t_int, t_tup, t_lst, t_non, w_cons, w_nil, wpS, wpE, wpEs, wpG, wpGs, wpI, wpT, startD, nb_fr, view_fr, it_fr, nb_int, nb_tup, nb_bl, nb_str, nb_lst, nb_scr, nb_non, nb_cell, nbs, g_name, g_tup, gsets, wipeD, noOw, itOk, view_int, view_tup, view_bl, view_str, view_lst, view_scr, view_non, at0, at1, at2, at3, ix0, ix1, ix2, tgN, List.map_cons, List.map_nil, List.append_nil, List.nil_append, List.cons_append, List.length_cons, List.length_nil, List.replicate_zero, List.replicate_succ, List.getElem?_cons_zero, List.getElem?_cons_succ, List.set_cons_zero, List.set_cons_succ, List.all_cons, List.all_nil, Bool.and_true, Bool.true_and, Nat.sub_self, Nat.add_sub_cancel_left, zeroNat, if_true, reduceCtorEq, true_and, and_true, ite_true, ite_false, Bool.false_eq_true, if_false, Nat.reduceAdd, Nat.reduceSub, Nat.reduceLT, Nat.zero_add, List.all, Bool.and_self, Int.reduceToNat, List.reduceReplicate, List.flatten_cons, List.flatten_nil, eq_self, permD, List.getD_cons_zero, List.getD_cons_succ, sIx21, List.take_succ_cons, List.take_zero, Nat.reduceLeDiff, and_self, decide_true, decide_false, Bool.not_true, Bool.not_false, sizeLine_eq]
      refine rest_go ?_
      have tr : isDsc (.tup [fr c, fr r]) = true := isDsc_ok pr
      simp only [↓w_for, ↓w_lc, b_add, b_addT, b_addL, b_sub, b_mul, b_mulL, b_mulT, b_fdiv, b_mod, b_pow, c_lt, c_le, c_gt, c_ge, c_eq, c_ne, c_eqS, c_neS, c_eq_tup, c_ne_tup, c_eq_lst, c_ne_lst, c_eq_bl, c_ne_bl, c_inT, c_ninT, i_int, i_intB, i_abs, i_dm, i_len_tup, i_len_lst, i_len_scr, i_max, i_min, i_gcd, i_isqrt, i_tuple1_tup, i_tuple1_lst, i_list1_tup, i_list1_lst, i_all, i_any, i_sum, i_repr_tup, i_repr_lst, i_repr_bl, i_repr_int, y_bl, y_int, y_str, y_tup, y_lst, y_non, it_tup, it_lst, it_scr, t_bl, t_int, t_tup, t_lst, t_non, w_cons, w_nil, wpS, wpE, wpEs, wpG, wpGs, wpI, wpT, startD, nb_fr, view_fr, it_fr, nb_int, nb_tup, nb_bl, nb_str, nb_lst, nb_scr, nb_non, nb_cell, nbs, g_name, g_tup, gsets, wipeD, noOw, itOk, view_int, view_tup, view_bl, view_str, view_lst, view_scr, view_non, at0, at1, at2, at3, ix0, ix1, ix2, tgN, List.map_cons, List.map_nil, List.append_nil, List.nil_append, List.cons_append, List.length_cons, List.length_nil, List.replicate_zero, List.replicate_succ, List.getElem?_cons_zero, List.getElem?_cons_succ, List.set_cons_zero, List.set_cons_succ, List.all_cons, List.all_nil, Bool.and_true, Bool.true_and, Nat.sub_self, Nat.add_sub_cancel_left, zeroNat, if_true, reduceCtorEq, true_and, and_true, ite_true, ite_false, Bool.false_eq_true, if_false, Nat.reduceAdd, Nat.reduceSub, Nat.reduceLT, Nat.zero_add, List.all, Bool.and_self, Int.reduceToNat, List.reduceReplicate, List.flatten_cons, List.flatten_nil, eq_self, permD, List.getD_cons_zero, List.getD_cons_succ, sIx21, List.take_succ_cons, List.take_zero, Nat.reduceLeDiff, and_self, decide_true, decide_false, Bool.not_true, Bool.not_false, sizeLine_eq]
      refine h16 m (.tup [fr c, fr r]) W' _ rfl ?_
      simp only [↓w_for, ↓w_lc, b_add, b_addT, b_addL, b_sub, b_mul, b_mulL, b_mulT, b_fdiv, b_mod, b_pow, c_lt, c_le, c_gt, c_ge, c_eq, c_ne, c_eqS, c_neS, c_eq_tup, c_ne_tup, c_eq_lst, c_ne_lst, c_eq_bl, c_ne_bl, c_inT, c_ninT, i_int, i_intB, i_abs, i_dm, i_len_tup, i_len_lst, i_len_scr, i_max, i_min, i_gcd, i_isqrt, i_tuple1_tup, i_tuple1_lst, i_list1_tup, i_list1_lst, i_all, i_any, i_sum, i_repr_tup, i_repr_lst, i_repr_bl, i_repr_int, y_bl, y_int, y_str, y_tup, y_lst, y_non, it_tup, it_lst, it_scr, t_bl, t_int, t_tup, t_lst, t_non, w_cons, w_nil, wpS, wpE, wpEs, wpG, wpGs, wpI, wpT, startD, nb_fr, view_fr, it_fr, nb_int, nb_tup, nb_bl, nb_str, nb_lst, nb_scr, nb_non, nb_cell, nbs, g_name, g_tup, gsets, wipeD, noOw, itOk, view_int, view_tup, view_bl, view_str, view_lst, view_scr, view_non, at0, at1, at2, at3, ix0, ix1, ix2, tgN, List.map_cons, List.map_nil, List.append_nil, List.nil_append, List.cons_append, List.length_cons, List.length_nil, List.replicate_zero, List.replicate_succ, List.getElem?_cons_zero, List.getElem?_cons_succ, List.set_cons_zero, List.set_cons_succ, List.all_cons, List.all_nil, Bool.and_true, Bool.true_and, Nat.sub_self, Nat.add_sub_cancel_left, zeroNat, if_true, reduceCtorEq, true_and, and_true, ite_true, ite_false, Bool.false_eq_true, if_false, Nat.reduceAdd, Nat.reduceSub, Nat.reduceLT, Nat.zero_add, List.all, Bool.and_self, Int.reduceToNat, List.reduceReplicate, List.flatten_cons, List.flatten_nil, eq_self, permD, List.getD_cons_zero, List.getD_cons_succ, sIx21, List.take_succ_cons, List.take_zero, Nat.reduceLeDiff, and_self, decide_true, decide_false, Bool.not_true, Bool.not_false, sizeLine_eq, tr]
      refine h16 m (.tup [fr c, fr r]) W' _ rfl ?_
      simp only [↓w_for, ↓w_lc, b_add, b_addT, b_addL, b_sub, b_mul, b_mulL, b_mulT, b_fdiv, b_mod, b_pow, c_lt, c_le, c_gt, c_ge, c_eq, c_ne, c_eqS, c_neS, c_eq_tup, c_ne_tup, c_eq_lst, c_ne_lst, c_eq_bl, c_ne_bl, c_inT, c_ninT, i_int, i_intB, i_abs, i_dm, i_len_tup, i_len_lst, i_len_scr, i_max, i_min, i_gcd, i_isqrt, i_tuple1_tup, i_tuple1_lst, i_list1_tup, i_list1_lst, i_all, i_any, i_sum, i_repr_tup, i_repr_lst, i_repr_bl, i_repr_int, y_bl, y_int, y_str, y_tup, y_lst, y_non, it_tup, it_lst, it_scr, t_bl, t_int, t_tup, t_lst, t_non, w_cons, w_nil, wpS, wpE, wpEs, wpG, wpGs, wpI, wpT, startD, nb_fr, view_fr, it_fr, nb_int, nb_tup, nb_bl, nb_str, nb_lst, nb_scr, nb_non, nb_cell, nbs, g_name, g_tup, gsets, wipeD, noOw, itOk, view_int, view_tup, view_bl, view_str, view_lst, view_scr, view_non, at0, at1, at2, at3, ix0, ix1, ix2, tgN, List.map_cons, List.map_nil, List.append_nil, List.nil_append, List.cons_append, List.length_cons, List.length_nil, List.replicate_zero, List.replicate_succ, List.getElem?_cons_zero, List.getElem?_cons_succ, List.set_cons_zero, List.set_cons_succ, List.all_cons, List.all_nil, Bool.and_true, Bool.true_and, Nat.sub_self, Nat.add_sub_cancel_left, zeroNat, if_true, reduceCtorEq, true_and, and_true, ite_true, ite_false, Bool.false_eq_true, if_false, Nat.reduceAdd, Nat.reduceSub, Nat.reduceLT, Nat.zero_add, List.all, Bool.and_self, Int.reduceToNat, List.reduceReplicate, List.flatten_cons, List.flatten_nil, eq_self, permD, List.getD_cons_zero, List.getD_cons_succ, sIx21, List.take_succ_cons, List.take_zero, Nat.reduceLeDiff, and_self, decide_true, decide_false, Bool.not_true, Bool.not_false, sizeLine_eq, tr]
      refine lcL_map (g := fun x => .bl (isDsc x)) _ (fun x hx R hR => ?_) ?_
      · have px : x.plain = true := by
          simp only [List.mem_cons, List.not_mem_nil, or_false] at hx
          rcases hx with rfl | rfl | rfl | rfl | rfl | rfl <;> rfl
        simp only [lcB, ↓w_for, ↓w_lc, b_add, b_addT, b_addL, b_sub, b_mul, b_mulL, b_mulT, b_fdiv, b_mod, b_pow, c_lt, c_le, c_gt, c_ge, c_eq, c_ne, c_eqS, c_neS, c_eq_tup, c_ne_tup, c_eq_lst, c_ne_lst, c_eq_bl, c_ne_bl, c_inT, c_ninT, i_int, i_intB, i_abs, i_dm, i_len_tup, i_len_lst, i_len_scr, i_max, i_min, i_gcd, i_isqrt, i_tuple1_tup, i_tuple1_lst, i_list1_tup, i_list1_lst, i_all, i_any, i_sum, i_repr_tup, i_repr_lst, i_repr_bl, i_repr_int, y_bl, y_int, y_str, y_tup, y_lst, y_non, it_tup, it_lst, it_scr, t_bl, t_int, t_tup, t_lst, t_non, w_cons, w_nil, wpS, wpE, wpEs, wpG, wpGs, wpI, wpT, startD, nb_fr, view_fr, it_fr, nb_int, nb_tup, nb_bl, nb_str, nb_lst, nb_scr, nb_non, nb_cell, nbs, g_name, g_tup, gsets, wipeD, noOw, itOk, view_int, view_tup, view_bl, view_str, view_lst, view_scr, view_non, at0, at1, at2, at3, ix0, ix1, ix2, tgN, List.map_cons, List.map_nil, List.append_nil, List.nil_append, List.cons_append, List.length_cons, List.length_nil, List.replicate_zero, List.replicate_succ, List.getElem?_cons_zero, List.getElem?_cons_succ, List.set_cons_zero, List.set_cons_succ, List.all_cons, List.all_nil, Bool.and_true, Bool.true_and, Nat.sub_self, Nat.add_sub_cancel_left, zeroNat, if_true, reduceCtorEq, true_and, and_true, ite_true, ite_false, Bool.false_eq_true, if_false, Nat.reduceAdd, Nat.reduceSub, Nat.reduceLT, Nat.zero_add, List.all, Bool.and_self, Int.reduceToNat, List.reduceReplicate, List.flatten_cons, List.flatten_nil, eq_self, permD, List.getD_cons_zero, List.getD_cons_succ, sIx21, List.take_succ_cons, List.take_zero, Nat.reduceLeDiff, and_self, decide_true, decide_false, Bool.not_true, Bool.not_false, sizeLine_eq, plain_nb px]
        exact h16 m x W' _ px ⟨rfl, hR⟩
      · have f1 : isDsc (.lst [fr c, fr r]) = false := rfl
        have f2 : isDsc (.tup [fr c, fr r, .tup [.int 0, .int 1]]) = false := rfl
        have f3 : isDsc (.tup [fr c]) = false := rfl
        simp only [↓w_for, ↓w_lc, b_add, b_addT, b_addL, b_sub, b_mul, b_mulL, b_mulT, b_fdiv, b_mod, b_pow, c_lt, c_le, c_gt, c_ge, c_eq, c_ne, c_eqS, c_neS, c_eq_tup, c_ne_tup, c_eq_lst, c_ne_lst, c_eq_bl, c_ne_bl, c_inT, c_ninT, i_int, i_intB, i_abs, i_dm, i_len_tup, i_len_lst, i_len_scr, i_max, i_min, i_gcd, i_isqrt, i_tuple1_tup, i_tuple1_lst, i_list1_tup, i_list1_lst, i_all, i_any, i_sum, i_repr_tup, i_repr_lst, i_repr_bl, i_repr_int, y_bl, y_int, y_str, y_tup, y_lst, y_non, it_tup, it_lst, it_scr, t_bl, t_int, t_tup, t_lst, t_non, w_cons, w_nil, wpS, wpE, wpEs, wpG, wpGs, wpI, wpT, startD, nb_fr, view_fr, it_fr, nb_int, nb_tup, nb_bl, nb_str, nb_lst, nb_scr, nb_non, nb_cell, nbs, g_name, g_tup, gsets, wipeD, noOw, itOk, view_int, view_tup, view_bl, view_str, view_lst, view_scr, view_non, at0, at1, at2, at3, ix0, ix1, ix2, tgN, List.map_cons, List.map_nil, List.append_nil, List.nil_append, List.cons_append, List.length_cons, List.length_nil, List.replicate_zero, List.replicate_succ, List.getElem?_cons_zero, List.getElem?_cons_succ, List.set_cons_zero, List.set_cons_succ, List.all_cons, List.all_nil, Bool.and_true, Bool.true_and, Nat.sub_self, Nat.add_sub_cancel_left, zeroNat, if_true, reduceCtorEq, true_and, and_true, ite_true, ite_false, Bool.false_eq_true, if_false, Nat.reduceAdd, Nat.reduceSub, Nat.reduceLT, Nat.zero_add, List.all, Bool.and_self, Int.reduceToNat, List.reduceReplicate, List.flatten_cons, List.flatten_nil, eq_self, permD, List.getD_cons_zero, List.getD_cons_succ, sIx21, List.take_succ_cons, List.take_zero, Nat.reduceLeDiff, and_self, decide_true, decide_false, Bool.not_true, Bool.not_false, sizeLine_eq, f1, f2, f3, e2, e3, e4]
        refine rest_go ?_
        simp only [↓w_for, ↓w_lc, b_add, b_addT, b_addL, b_sub, b_mul, b_mulL, b_mulT, b_fdiv, b_mod, b_pow, c_lt, c_le, c_gt, c_ge, c_eq, c_ne, c_eqS, c_neS, c_eq_tup, c_ne_tup, c_eq_lst, c_ne_lst, c_eq_bl, c_ne_bl, c_inT, c_ninT, i_int, i_intB, i_abs, i_dm, i_len_tup, i_len_lst, i_len_scr, i_max, i_min, i_gcd, i_isqrt, i_tuple1_tup, i_tuple1_lst, i_list1_tup, i_list1_lst, i_all, i_any, i_sum, i_repr_tup, i_repr_lst, i_repr_bl, i_repr_int, y_bl, y_int, y_str, y_tup, y_lst, y_non, it_tup, it_lst, it_scr, t_bl, t_int, t_tup, t_lst, t_non, w_cons, w_nil, wpS, wpE, wpEs, wpG, wpGs, wpI, wpT, startD, nb_fr, view_fr, it_fr, nb_int, nb_tup, nb_bl, nb_str, nb_lst, nb_scr, nb_non, nb_cell, nbs, g_name, g_tup, gsets, wipeD, noOw, itOk, view_int, view_tup, view_bl, view_str, view_lst, view_scr, view_non, at0, at1, at2, at3, ix0, ix1, ix2, tgN, List.map_cons, List.map_nil, List.append_nil, List.nil_append, List.cons_append, List.length_cons, List.length_nil, List.replicate_zero, List.replicate_succ, List.getElem?_cons_zero, List.getElem?_cons_succ, List.set_cons_zero, List.set_cons_succ, List.all_cons, List.all_nil, Bool.and_true, Bool.true_and, Nat.sub_self, Nat.add_sub_cancel_left, zeroNat, if_true, reduceCtorEq, true_and, and_true, ite_true, ite_false, Bool.false_eq_true, if_false, Nat.reduceAdd, Nat.reduceSub, Nat.reduceLT, Nat.zero_add, List.all, Bool.and_self, Int.reduceToNat, List.reduceReplicate, List.flatten_cons, List.flatten_nil, eq_self, permD, List.getD_cons_zero, List.getD_cons_succ, sIx21, List.take_succ_cons, List.take_zero, Nat.reduceLeDiff, and_self, decide_true, decide_false, Bool.not_true, Bool.not_false]
        refine ⟨rp1, by decide, by decide, by decide, by decide, by decide, rp1, ?_⟩
        exact hn _ _ ⟨ks, _, _, _, rfl, rfl, fun p h => hp p (List.mem_cons_of_mem _ h), rfl⟩
  · rintro σ W' ⟨ks, z1, z2, z3, rfl, hk, hp, rfl⟩
    refine rest_go ?_
    simp only [↓w_for, ↓w_lc, b_add, b_addT, b_addL, b_sub, b_mul, b_mulL, b_mulT, b_fdiv, b_mod, b_pow, c_lt, c_le, c_gt, c_ge, c_eq, c_ne, c_eqS, c_neS, c_eq_tup, c_ne_tup, c_eq_lst, c_ne_lst, c_eq_bl, c_ne_bl, c_inT, c_ninT, i_int, i_intB, i_abs, i_dm, i_len_tup, i_len_lst, i_len_scr, i_max, i_min, i_gcd, i_isqrt, i_tuple1_tup, i_tuple1_lst, i_list1_tup, i_list1_lst, i_all, i_any, i_sum, i_repr_tup, i_repr_lst, i_repr_bl, i_repr_int, y_bl, y_int, y_str, y_tup, y_lst, y_non, it_tup, it_lst, it_scr, t_bl, t_int, t_tup, t_lst, t_non, w_cons, w_nil, wpS, wpE, wpEs, wpG, wpGs, wpI, wpT, startD, nb_fr, view_fr, it_fr, nb_int, nb_tup, nb_bl, nb_str, nb_lst, nb_scr, nb_non, nb_cell, nbs, g_name, g_tup, gsets, wipeD, noOw, itOk, view_int, view_tup, view_bl, view_str, view_lst, view_scr, view_non, at0, at1, at2, at3, ix0, ix1, ix2, tgN, List.map_cons, List.map_nil, List.append_nil, List.nil_append, List.cons_append, List.length_cons, List.length_nil, List.replicate_zero, List.replicate_succ, List.getElem?_cons_zero, List.getElem?_cons_succ, List.set_cons_zero, List.set_cons_succ, List.all_cons, List.all_nil, Bool.and_true, Bool.true_and, Nat.sub_self, Nat.add_sub_cancel_left, zeroNat, if_true, reduceCtorEq, true_and, and_true, ite_true, ite_false, Bool.false_eq_true, if_false, Nat.reduceAdd, Nat.reduceSub, Nat.reduceLT, Nat.zero_add, List.all, Bool.and_self, Int.reduceToNat, List.reduceReplicate, List.flatten_cons, List.flatten_nil, eq_self, permD, List.getD_cons_zero, List.getD_cons_succ, sIx21, List.take_succ_cons, List.take_zero, Nat.reduceLeDiff, and_self, decide_true, decide_false, Bool.not_true, Bool.not_false]
    exact hQ
end K20

set_option Elab.async false
set_option linter.all false
set_option maxRecDepth 100000
set_option maxHeartbeats 0
namespace K20
open PySem L2 Bn
/-! the plain law -/
theorem sq_le {a r : Rat} (h : a * a ≤ r * r) (p : 0 ≤ r) : a ≤ r := by
  rcases (Rat.le_total : a ≤ r ∨ r ≤ a) with z | z
  · exact z
  · have h1 : 0 ≤ (a - r) * (a + r) := Rat.mul_nonneg (by grind) (by grind)
    by_cases e : a = r
    · rw [e]
      exact Rat.le_refl
    · have h2 : 0 < (a - r) * (a + r) := Rat.mul_pos (by grind) (by grind)
      grind
theorem sq_nonneg (a : Rat) : 0 ≤ a * a := by
  rcases (Rat.le_total : 0 ≤ a ∨ a ≤ 0) with z | z
  · exact Rat.mul_nonneg z z
  · have := Rat.mul_nonneg (a := -a) (b := -a) (by grind) (by grind)
    grind
theorem sq_le2 {a r : Rat} (h : a * a ≤ r * r) (p : 0 ≤ r) : -r ≤ a := by
  have := sq_le (a := -a) (r := r) (by grind) p
  grind
theorem has_ok {u r u' r' x y : Rat} (p : 0 ≤ r) (hi : inn u r u' r' = true) (hp : (x - u) * (x - u) + y * y ≤ r * r) : (x - u') * (x - u') + y * y ≤ r' * r' := by
  have h0 : absR (u - u') + r ≤ r' := by
    unfold inn at hi
    rw [Bool.not_eq_true', decide_eq_false_iff_not, Rat.not_lt] at hi
    exact hi
  have hy := sq_nonneg y
  have ha : (x - u) * (x - u) ≤ r * r := by grind
  have h1 := sq_le ha p
  have h2 := sq_le2 ha p
  have hD : 0 ≤ absR (u - u') ∧ absR (u - u') * absR (u - u') = (u - u') * (u - u') ∧ (x - u) * (u - u') ≤ r * absR (u - u') := by
    unfold absR
    split
    · refine ⟨by grind, by grind, ?_⟩
      have := Rat.mul_nonneg (a := (x - u) + r) (b := -(u - u')) (by grind) (by grind)
      grind
    · refine ⟨by grind, rfl, ?_⟩
      have := Rat.mul_nonneg (a := r - (x - u)) (b := u - u') (by grind) (by grind)
      grind
  generalize absR (u - u') = d at *
  obtain ⟨d0, d1, d2⟩ := hD
  have h3 : (d + r) * (d + r) ≤ r' * r' := by
    have := Rat.mul_nonneg (a := r' - (d + r)) (b := r' + (d + r)) (by grind) (by grind)
    grind
  have h4 : (x - u') * (x - u') = (x - u) * (x - u) + 2 * ((x - u) * (u - u')) + (u - u') * (u - u') := by grind
  grind
theorem both_ok {u r u' r' x y x' y' : Rat} (p : 0 ≤ r) (p' : 0 ≤ r') (h : (x - u) * (x - u) + y * y ≤ r * r) (h' : (x' - u') * (x' - u') + y' * y' ≤ r' * r') : (x + x' - (u + u')) * (x + x' - (u + u')) + (y + y') * (y + y') ≤ (r + r') * (r + r') := by
  generalize ea : x - u = a at *
  generalize eb : x' - u' = b at *
  have e : x + x' - (u + u') = a + b := by grind
  rw [e]
  have c0 := sq_nonneg (a * y' - b * y)
  have c1 : 0 ≤ a * a + y * y := by
    have := sq_nonneg a
    have := sq_nonneg y
    grind
  have c2 : 0 ≤ b * b + y' * y' := by
    have := sq_nonneg b
    have := sq_nonneg y'
    grind
  have c3 : (a * a + y * y) * (b * b + y' * y') ≤ (r * r) * (r' * r') := by
    have h1 := Rat.mul_nonneg (a := r * r - (a * a + y * y)) (b := b * b + y' * y') (by grind) c2
    have h2 := Rat.mul_nonneg (a := r * r) (b := r' * r' - (b * b + y' * y')) (sq_nonneg r) (by grind)
    grind
  have c4 : (a * b + y * y') * (a * b + y * y') ≤ (r * r') * (r * r') := by grind
  have c5 := sq_le c4 (Rat.mul_nonneg p p')
  grind
theorem abs_sq (q : Rat) : absR q * absR q = q * q := by
  unfold absR
  split <;> grind
theorem times_in {u r x y q : Rat} (h : (x - u) * (x - u) + y * y ≤ r * r) : (q * x - q * u) * (q * x - q * u) + q * y * (q * y) ≤ absR q * r * (absR q * r) := by
  have e := abs_sq q
  have h1 := Rat.mul_nonneg (a := q * q) (b := r * r - ((x - u) * (x - u) + y * y)) (sq_nonneg q) (by grind)
  have e2 : absR q * r * (absR q * r) = (absR q * absR q) * (r * r) := by grind
  rw [e2, e]
  grind
theorem inn_shift (u r u' r' v s : Rat) : inn (u + v) (r + s) (u' + v) (r' + s) = inn u r u' r' := by
  unfold inn
  have e : u + v - (u' + v) = u - u' := by grind
  rw [e, Bool.eq_iff_iff]
  simp only [Bool.not_eq_true', decide_eq_false_iff_not, Rat.not_lt]
  constructor <;> intro h <;> grind
theorem abs_pos {q : Rat} (h : q ≠ 0) : 0 < absR q := by
  unfold absR
  split <;> grind
theorem abs_mul (q d : Rat) : absR (q * d) = absR q * absR d := by
  have mm : ∀ a b : Rat, 0 ≤ a → 0 ≤ b → 0 ≤ a * b := fun a b => Rat.mul_nonneg
  unfold absR
  by_cases h1 : q < 0
  · by_cases h2 : d < 0
    · have := mm (-q) (-d) (by grind) (by grind)
      rw [if_pos h1, if_pos h2, if_neg (by grind)]
      grind
    · have := mm (-q) d (by grind) (by grind)
      rw [if_pos h1, if_neg h2]
      split <;> grind
  · by_cases h2 : d < 0
    · have := mm q (-d) (by grind) (by grind)
      rw [if_neg h1, if_pos h2]
      split <;> grind
    · have := mm q d (by grind) (by grind)
      rw [if_neg h1, if_neg h2, if_neg (by grind)]
theorem inn_times {u r u' r' q : Rat} (h : q ≠ 0) : inn (q * u) (absR q * r) (q * u') (absR q * r') = inn u r u' r' := by
  unfold inn
  have e : q * u - q * u' = q * (u - u') := by grind
  have hp := abs_pos h
  rw [e, abs_mul, Bool.eq_iff_iff]
  simp only [Bool.not_eq_true', decide_eq_false_iff_not, Rat.not_lt]
  generalize absR q = k at *
  generalize absR (u - u') = d at *
  constructor
  · intro z
    rcases (Rat.le_total : d + r ≤ r' ∨ r' ≤ d + r) with y | y
    · exact y
    · by_cases e2 : d + r = r'
      · rw [e2]
        exact Rat.le_refl
      · have := Rat.mul_pos hp (b := d + r - r') (by grind)
        grind
  · intro z
    have := Rat.mul_nonneg (a := k) (b := r' - (d + r)) (by grind) (by grind)
    grind
end K20

set_option Elab.async false
set_option linter.all false
set_option maxRecDepth 100000
set_option maxHeartbeats 0
namespace K20
open PySem L2 Bn
def bIn : Ss := .cons (.asg (.name 16) (.call 17 (.cons (.ix (.var 11) (.var 14)) (.cons (.var 15) .nil)))) (.cons (.sif (.cmp .ne (.bi .repr1 (.cons (.lst (.cons (.var 16) (.cons (.callk 17 [1, 0] (.cons (.var 15) (.cons (.ix (.var 11) (.var 14)) .nil))) .nil))) .nil)) (.bi .repr1 (.cons (.bin .mul (.lst (.cons (.call 38 (.cons (.ix (.var 11) (.var 14)) (.cons (.var 15) .nil))) .nil)) (.con (.int 2))) .nil))) (.cons (.ret (.con (.bl false))) .nil) (.nil)) (.cons (.sif (.and (.var 16) (.and (.cmp .notIn (.bi .int1 (.cons (.var 14) .nil)) (.tup (.cons (.con (.int 2)) (.cons (.con (.int 5)) .nil)))) (.not (.call 35 (.cons (.var 15) (.cons (.ix (.var 13) (.var 14)) .nil)))))) (.cons (.ret (.con (.bl false))) .nil) (.nil)) .nil))
def bOut : Ss := .cons (.sfor (.val (.var 11)) (.name 15) bIn) .nil
theorem at_Ds {xs : List (Rat × Rat)} {k : Nat} {p : Rat × Rat} (h : xs[k]? = some p) : atI (Ds xs) (k : Int) = some (dsc p.1 p.2) := by
  have hk := (List.getElem?_eq_some_iff.mp h).1
  rw [Bn.atI_nat (by unfold Ds; rw [List.length_map]; exact hk)]
  unfold Ds
  rw [List.getElem?_map, h]
  rfl
theorem notin_ok : ∀ k : Nat, k < 6 → (!inV (D.int k).fv [(D.int 2).fv, (D.int 5).fv]) = (k != 2 && k != 5)
  | 0, _ => rfl
  | 1, _ => rfl
  | 2, _ => rfl
  | 3, _ => rfl
  | 4, _ => rfl
  | 5, _ => rfl
  | k + 6, h => absurd h (by omega)
theorem two_ok (z : Bool) : (D.lst [.bl z, .bl z]).plain = true ∧ (D.lst [.bl z, .bl z]).py.showable = true ∧ (D.lst [.bl z, .bl z]).py.depth ≤ 60 ∧ (D.lst [.bl z, .bl z]).py.shown.length ≤ sizeLine :=
  repr_ok (by simp only [D.rp, rps]; exact ⟨trivial, trivial, trivial⟩) rfl rfl
/-- what is known of the discs and the points -/
structure Ok (xs ps : List (Rat × Rat)) : Prop where
  l1 : xs.length = 6
  l2 : ps.length = 6
  bx : ∀ p ∈ xs, Bd 200 p.1 ∧ Bd 200 p.2 ∧ 0 ≤ p.2
  bp : ∀ p ∈ ps, Bd 500 p.1 ∧ Bd 500 p.2
  lie : ∀ (k : Nat) (p q : Rat × Rat), xs[k]? = some p → ps[k]? = some q → k ≠ 2 → k ≠ 5 → (q.1 - p.1) * (q.1 - p.1) + q.2 * q.2 ≤ p.2 * p.2
theorem inner {m : Nat} {xs ps : List (Rat × Rat)} (ok : Ok xs ps) {a0 a1 a2 a3 a4 a5 a6 a7 a8 a9 a10 a12 z15 z16 : SV} {k : Nat} (hk : k < 6) {u' r' : Rat} (hm : (u', r') ∈ xs) {W : Ce} {e : Ed}
    (hn : ∀ y15 y16 : SV, e.nx [a0, a1, a2, a3, a4, a5, a6, a7, a8, a9, a10, .sh (.lst (Ds xs)), a12, .sh (.lst (Ds ps)), .sh (.int k), y15, y16] W) :
    forB ⟨wpC fs cs (m + 7), cs⟩ (.name 15) bIn (dsc u' r') [a0, a1, a2, a3, a4, a5, a6, a7, a8, a9, a10, .sh (.lst (Ds xs)), a12, .sh (.lst (Ds ps)), .sh (.int k), z15, z16] W e := by
  have l1 := ok.l1
  have l2 := ok.l2
  have hx : xs[k]? = some (xs[k]'(by omega)) := List.getElem?_eq_getElem _
  have hp : ps[k]? = some (ps[k]'(by omega)) := List.getElem?_eq_getElem _
  generalize xs[k]'(by omega) = p at hx
  generalize ps[k]'(by omega) = q at hp
  obtain ⟨u, r⟩ := p
  obtain ⟨x, y⟩ := q
  obtain ⟨b1, b2, b3⟩ := ok.bx _ (List.mem_of_getElem? hx)
  obtain ⟨b4, b5, b6⟩ := ok.bx _ hm
  obtain ⟨b7, b8⟩ := ok.bp _ (List.mem_of_getElem? hp)
  have e1 := at_Ds hx
  have e2 := at_Ds hp
  dsimp only at b1 b2 b3 b4 b5 b6 b7 b8 e1 e2
  have f1 := b1.mono (show 200 ≤ 500 by decide)
  have f2 := b2.mono (show 200 ≤ 500 by decide)
  have f4 := b4.mono (show 200 ≤ 500 by decide)
  have f5 := b5.mono (show 200 ≤ 500 by decide)
  simp only [forB, bIn, ↓w_for, ↓w_lc, b_add, b_addT, b_addL, b_sub, b_mul, b_mulL, b_mulT, b_fdiv, b_mod, b_pow, c_lt, c_le, c_gt, c_ge, c_eq, c_ne, c_eqS, c_neS, c_eq_tup, c_ne_tup, c_eq_lst, c_ne_lst, c_eq_bl, c_ne_bl, c_inT, c_ninT, i_int, i_intB, i_abs, i_dm, i_len_tup, i_len_lst, i_len_scr, i_max, i_min, i_gcd, i_isqrt, i_tuple1_tup, i_tuple1_lst, i_list1_tup, i_list1_lst, i_all, i_any, i_sum, i_repr_tup, i_repr_lst, i_repr_bl, i_repr_int, y_bl, y_int, y_str, y_tup, y_lst, y_non, it_tup, it_lst, it_scr, t_bl, t_int, t_tup, t_lst, t_non, w_cons, w_nil, wpS, wpE, wpEs, wpG, wpGs, wpI, wpT, startD, nb_fr, view_fr, it_fr, nb_int, nb_tup, nb_bl, nb_str, nb_lst, nb_scr, nb_non, nb_cell, nbs, g_name, g_tup, gsets, wipeD, noOw, itOk, view_int, view_tup, view_bl, view_str, view_lst, view_scr, view_non, at0, at1, at2, at3, ix0, ix1, ix2, tgN, List.map_cons, List.map_nil, List.append_nil, List.nil_append, List.cons_append, List.length_cons, List.length_nil, List.replicate_zero, List.replicate_succ, List.getElem?_cons_zero, List.getElem?_cons_succ, List.set_cons_zero, List.set_cons_succ, List.all_cons, List.all_nil, Bool.and_true, Bool.true_and, Nat.sub_self, Nat.add_sub_cancel_left, zeroNat, if_true, reduceCtorEq, true_and, and_true, ite_true, ite_false, Bool.false_eq_true, if_false, Nat.reduceAdd, Nat.reduceSub, Nat.reduceLT, Nat.zero_add, List.all, Bool.and_self, Int.reduceToNat, List.reduceReplicate, List.flatten_cons, List.flatten_nil, eq_self, permD, List.getD_cons_zero, List.getD_cons_succ, sIx21, List.take_succ_cons, List.take_zero, Nat.reduceLeDiff, and_self, decide_true, decide_false, Bool.not_true, Bool.not_false, dsc_nb, e1, dsc_view]
  refine h17 m u r u' r' W _ f1 f2 f4 f5 b3 b6 ?_
  simp only [↓w_for, ↓w_lc, b_add, b_addT, b_addL, b_sub, b_mul, b_mulL, b_mulT, b_fdiv, b_mod, b_pow, c_lt, c_le, c_gt, c_ge, c_eq, c_ne, c_eqS, c_neS, c_eq_tup, c_ne_tup, c_eq_lst, c_ne_lst, c_eq_bl, c_ne_bl, c_inT, c_ninT, i_int, i_intB, i_abs, i_dm, i_len_tup, i_len_lst, i_len_scr, i_max, i_min, i_gcd, i_isqrt, i_tuple1_tup, i_tuple1_lst, i_list1_tup, i_list1_lst, i_all, i_any, i_sum, i_repr_tup, i_repr_lst, i_repr_bl, i_repr_int, y_bl, y_int, y_str, y_tup, y_lst, y_non, it_tup, it_lst, it_scr, t_bl, t_int, t_tup, t_lst, t_non, w_cons, w_nil, wpS, wpE, wpEs, wpG, wpGs, wpI, wpT, startD, nb_fr, view_fr, it_fr, nb_int, nb_tup, nb_bl, nb_str, nb_lst, nb_scr, nb_non, nb_cell, nbs, g_name, g_tup, gsets, wipeD, noOw, itOk, view_int, view_tup, view_bl, view_str, view_lst, view_scr, view_non, at0, at1, at2, at3, ix0, ix1, ix2, tgN, List.map_cons, List.map_nil, List.append_nil, List.nil_append, List.cons_append, List.length_cons, List.length_nil, List.replicate_zero, List.replicate_succ, List.getElem?_cons_zero, List.getElem?_cons_succ, List.set_cons_zero, List.set_cons_succ, List.all_cons, List.all_nil, Bool.and_true, Bool.true_and, Nat.sub_self, Nat.add_sub_cancel_left, zeroNat, if_true, reduceCtorEq, true_and, and_true, ite_true, ite_false, Bool.false_eq_true, if_false, Nat.reduceAdd, Nat.reduceSub, Nat.reduceLT, Nat.zero_add, List.all, Bool.and_self, Int.reduceToNat, List.reduceReplicate, List.flatten_cons, List.flatten_nil, eq_self, permD, List.getD_cons_zero, List.getD_cons_succ, sIx21, List.take_succ_cons, List.take_zero, Nat.reduceLeDiff, and_self, decide_true, decide_false, Bool.not_true, Bool.not_false]
  refine rest_go ?_
  simp only [↓w_for, ↓w_lc, b_add, b_addT, b_addL, b_sub, b_mul, b_mulL, b_mulT, b_fdiv, b_mod, b_pow, c_lt, c_le, c_gt, c_ge, c_eq, c_ne, c_eqS, c_neS, c_eq_tup, c_ne_tup, c_eq_lst, c_ne_lst, c_eq_bl, c_ne_bl, c_inT, c_ninT, i_int, i_intB, i_abs, i_dm, i_len_tup, i_len_lst, i_len_scr, i_max, i_min, i_gcd, i_isqrt, i_tuple1_tup, i_tuple1_lst, i_list1_tup, i_list1_lst, i_all, i_any, i_sum, i_repr_tup, i_repr_lst, i_repr_bl, i_repr_int, y_bl, y_int, y_str, y_tup, y_lst, y_non, it_tup, it_lst, it_scr, t_bl, t_int, t_tup, t_lst, t_non, w_cons, w_nil, wpS, wpE, wpEs, wpG, wpGs, wpI, wpT, startD, nb_fr, view_fr, it_fr, nb_int, nb_tup, nb_bl, nb_str, nb_lst, nb_scr, nb_non, nb_cell, nbs, g_name, g_tup, gsets, wipeD, noOw, itOk, view_int, view_tup, view_bl, view_str, view_lst, view_scr, view_non, at0, at1, at2, at3, ix0, ix1, ix2, tgN, List.map_cons, List.map_nil, List.append_nil, List.nil_append, List.cons_append, List.length_cons, List.length_nil, List.replicate_zero, List.replicate_succ, List.getElem?_cons_zero, List.getElem?_cons_succ, List.set_cons_zero, List.set_cons_succ, List.all_cons, List.all_nil, Bool.and_true, Bool.true_and, Nat.sub_self, Nat.add_sub_cancel_left, zeroNat, if_true, reduceCtorEq, true_and, and_true, ite_true, ite_false, Bool.false_eq_true, if_false, Nat.reduceAdd, Nat.reduceSub, Nat.reduceLT, Nat.zero_add, List.all, Bool.and_self, Int.reduceToNat, List.reduceReplicate, List.flatten_cons, List.flatten_nil, eq_self, permD, List.getD_cons_zero, List.getD_cons_succ, sIx21, List.take_succ_cons, List.take_zero, Nat.reduceLeDiff, and_self, decide_true, decide_false, Bool.not_true, Bool.not_false, dsc_nb, e1, dsc_view]
  refine h17 m u r u' r' W _ f1 f2 f4 f5 b3 b6 ?_
  simp only [↓w_for, ↓w_lc, b_add, b_addT, b_addL, b_sub, b_mul, b_mulL, b_mulT, b_fdiv, b_mod, b_pow, c_lt, c_le, c_gt, c_ge, c_eq, c_ne, c_eqS, c_neS, c_eq_tup, c_ne_tup, c_eq_lst, c_ne_lst, c_eq_bl, c_ne_bl, c_inT, c_ninT, i_int, i_intB, i_abs, i_dm, i_len_tup, i_len_lst, i_len_scr, i_max, i_min, i_gcd, i_isqrt, i_tuple1_tup, i_tuple1_lst, i_list1_tup, i_list1_lst, i_all, i_any, i_sum, i_repr_tup, i_repr_lst, i_repr_bl, i_repr_int, y_bl, y_int, y_str, y_tup, y_lst, y_non, it_tup, it_lst, it_scr, t_bl, t_int, t_tup, t_lst, t_non, w_cons, w_nil, wpS, wpE, wpEs, wpG, wpGs, wpI, wpT, startD, nb_fr, view_fr, it_fr, nb_int, nb_tup, nb_bl, nb_str, nb_lst, nb_scr, nb_non, nb_cell, nbs, g_name, g_tup, gsets, wipeD, noOw, itOk, view_int, view_tup, view_bl, view_str, view_lst, view_scr, view_non, at0, at1, at2, at3, ix0, ix1, ix2, tgN, List.map_cons, List.map_nil, List.append_nil, List.nil_append, List.cons_append, List.length_cons, List.length_nil, List.replicate_zero, List.replicate_succ, List.getElem?_cons_zero, List.getElem?_cons_succ, List.set_cons_zero, List.set_cons_succ, List.all_cons, List.all_nil, Bool.and_true, Bool.true_and, Nat.sub_self, Nat.add_sub_cancel_left, zeroNat, if_true, reduceCtorEq, true_and, and_true, ite_true, ite_false, Bool.false_eq_true, if_false, Nat.reduceAdd, Nat.reduceSub, Nat.reduceLT, Nat.zero_add, List.all, Bool.and_self, Int.reduceToNat, List.reduceReplicate, List.flatten_cons, List.flatten_nil, eq_self, permD, List.getD_cons_zero, List.getD_cons_succ, sIx21, List.take_succ_cons, List.take_zero, Nat.reduceLeDiff, and_self, decide_true, decide_false, Bool.not_true, Bool.not_false]
  refine ⟨by decide, two_ok _, ?_⟩
  try simp only [↓w_for, ↓w_lc, b_add, b_addT, b_addL, b_sub, b_mul, b_mulL, b_mulT, b_fdiv, b_mod, b_pow, c_lt, c_le, c_gt, c_ge, c_eq, c_ne, c_eqS, c_neS, c_eq_tup, c_ne_tup, c_eq_lst, c_ne_lst, c_eq_bl, c_ne_bl, c_inT, c_ninT, i_int, i_intB, i_abs, i_dm, i_len_tup, i_len_lst, i_len_scr, i_max, i_min, i_gcd, i_isqrt, i_tuple1_tup, i_tuple1_lst, i_list1_tup, i_list1_lst, i_all, i_any, i_sum, i_repr_tup, i_repr_lst, i_repr_bl, i_repr_int, y_bl, y_int, y_str, y_tup, y_lst, y_non, it_tup, it_lst, it_scr, t_bl, t_int, t_tup, t_lst, t_non, w_cons, w_nil, wpS, wpE, wpEs, wpG, wpGs, wpI, wpT, startD, nb_fr, view_fr, it_fr, nb_int, nb_tup, nb_bl, nb_str, nb_lst, nb_scr, nb_non, nb_cell, nbs, g_name, g_tup, gsets, wipeD, noOw, itOk, view_int, view_tup, view_bl, view_str, view_lst, view_scr, view_non, at0, at1, at2, at3, ix0, ix1, ix2, tgN, List.map_cons, List.map_nil, List.append_nil, List.nil_append, List.cons_append, List.length_cons, List.length_nil, List.replicate_zero, List.replicate_succ, List.getElem?_cons_zero, List.getElem?_cons_succ, List.set_cons_zero, List.set_cons_succ, List.all_cons, List.all_nil, Bool.and_true, Bool.true_and, Nat.sub_self, Nat.add_sub_cancel_left, zeroNat, if_true, reduceCtorEq, true_and, and_true, ite_true, ite_false, Bool.false_eq_true, if_false, Nat.reduceAdd, Nat.reduceSub, Nat.reduceLT, Nat.zero_add, List.all, Bool.and_self, Int.reduceToNat, List.reduceReplicate, List.flatten_cons, List.flatten_nil, eq_self, permD, List.getD_cons_zero, List.getD_cons_succ, sIx21, List.take_succ_cons, List.take_zero, Nat.reduceLeDiff, and_self, decide_true, decide_false, Bool.not_true, Bool.not_false, dsc_nb, e1, dsc_view]
  refine h38 (m + 2) u r u' r' W _ f1 f2 f4 f5 ?_
  simp only [↓w_for, ↓w_lc, b_add, b_addT, b_addL, b_sub, b_mul, b_mulL, b_mulT, b_fdiv, b_mod, b_pow, c_lt, c_le, c_gt, c_ge, c_eq, c_ne, c_eqS, c_neS, c_eq_tup, c_ne_tup, c_eq_lst, c_ne_lst, c_eq_bl, c_ne_bl, c_inT, c_ninT, i_int, i_intB, i_abs, i_dm, i_len_tup, i_len_lst, i_len_scr, i_max, i_min, i_gcd, i_isqrt, i_tuple1_tup, i_tuple1_lst, i_list1_tup, i_list1_lst, i_all, i_any, i_sum, i_repr_tup, i_repr_lst, i_repr_bl, i_repr_int, y_bl, y_int, y_str, y_tup, y_lst, y_non, it_tup, it_lst, it_scr, t_bl, t_int, t_tup, t_lst, t_non, w_cons, w_nil, wpS, wpE, wpEs, wpG, wpGs, wpI, wpT, startD, nb_fr, view_fr, it_fr, nb_int, nb_tup, nb_bl, nb_str, nb_lst, nb_scr, nb_non, nb_cell, nbs, g_name, g_tup, gsets, wipeD, noOw, itOk, view_int, view_tup, view_bl, view_str, view_lst, view_scr, view_non, at0, at1, at2, at3, ix0, ix1, ix2, tgN, List.map_cons, List.map_nil, List.append_nil, List.nil_append, List.cons_append, List.length_cons, List.length_nil, List.replicate_zero, List.replicate_succ, List.getElem?_cons_zero, List.getElem?_cons_succ, List.set_cons_zero, List.set_cons_succ, List.all_cons, List.all_nil, Bool.and_true, Bool.true_and, Nat.sub_self, Nat.add_sub_cancel_left, zeroNat, if_true, reduceCtorEq, true_and, and_true, ite_true, ite_false, Bool.false_eq_true, if_false, Nat.reduceAdd, Nat.reduceSub, Nat.reduceLT, Nat.zero_add, List.all, Bool.and_self, Int.reduceToNat, List.reduceReplicate, List.flatten_cons, List.flatten_nil, eq_self, permD, List.getD_cons_zero, List.getD_cons_succ, sIx21, List.take_succ_cons, List.take_zero, Nat.reduceLeDiff, and_self, decide_true, decide_false, Bool.not_true, Bool.not_false]
  refine ⟨by decide, by decide, two_ok _, ?_⟩
  refine rest_go ?_
  simp only [↓w_for, ↓w_lc, b_add, b_addT, b_addL, b_sub, b_mul, b_mulL, b_mulT, b_fdiv, b_mod, b_pow, c_lt, c_le, c_gt, c_ge, c_eq, c_ne, c_eqS, c_neS, c_eq_tup, c_ne_tup, c_eq_lst, c_ne_lst, c_eq_bl, c_ne_bl, c_inT, c_ninT, i_int, i_intB, i_abs, i_dm, i_len_tup, i_len_lst, i_len_scr, i_max, i_min, i_gcd, i_isqrt, i_tuple1_tup, i_tuple1_lst, i_list1_tup, i_list1_lst, i_all, i_any, i_sum, i_repr_tup, i_repr_lst, i_repr_bl, i_repr_int, y_bl, y_int, y_str, y_tup, y_lst, y_non, it_tup, it_lst, it_scr, t_bl, t_int, t_tup, t_lst, t_non, w_cons, w_nil, wpS, wpE, wpEs, wpG, wpGs, wpI, wpT, startD, nb_fr, view_fr, it_fr, nb_int, nb_tup, nb_bl, nb_str, nb_lst, nb_scr, nb_non, nb_cell, nbs, g_name, g_tup, gsets, wipeD, noOw, itOk, view_int, view_tup, view_bl, view_str, view_lst, view_scr, view_non, at0, at1, at2, at3, ix0, ix1, ix2, tgN, List.map_cons, List.map_nil, List.append_nil, List.nil_append, List.cons_append, List.length_cons, List.length_nil, List.replicate_zero, List.replicate_succ, List.getElem?_cons_zero, List.getElem?_cons_succ, List.set_cons_zero, List.set_cons_succ, List.all_cons, List.all_nil, Bool.and_true, Bool.true_and, Nat.sub_self, Nat.add_sub_cancel_left, zeroNat, if_true, reduceCtorEq, true_and, and_true, ite_true, ite_false, Bool.false_eq_true, if_false, Nat.reduceAdd, Nat.reduceSub, Nat.reduceLT, Nat.zero_add, List.all, Bool.and_self, Int.reduceToNat, List.reduceReplicate, List.flatten_cons, List.flatten_nil, eq_self, permD, List.getD_cons_zero, List.getD_cons_succ, sIx21, List.take_succ_cons, List.take_zero, Nat.reduceLeDiff, and_self, decide_true, decide_false, Bool.not_true, Bool.not_false]
  cases hi : inn u r u' r' with
  | false =>
    simp only [↓w_for, ↓w_lc, b_add, b_addT, b_addL, b_sub, b_mul, b_mulL, b_mulT, b_fdiv, b_mod, b_pow, c_lt, c_le, c_gt, c_ge, c_eq, c_ne, c_eqS, c_neS, c_eq_tup, c_ne_tup, c_eq_lst, c_ne_lst, c_eq_bl, c_ne_bl, c_inT, c_ninT, i_int, i_intB, i_abs, i_dm, i_len_tup, i_len_lst, i_len_scr, i_max, i_min, i_gcd, i_isqrt, i_tuple1_tup, i_tuple1_lst, i_list1_tup, i_list1_lst, i_all, i_any, i_sum, i_repr_tup, i_repr_lst, i_repr_bl, i_repr_int, y_bl, y_int, y_str, y_tup, y_lst, y_non, it_tup, it_lst, it_scr, t_bl, t_int, t_tup, t_lst, t_non, w_cons, w_nil, wpS, wpE, wpEs, wpG, wpGs, wpI, wpT, startD, nb_fr, view_fr, it_fr, nb_int, nb_tup, nb_bl, nb_str, nb_lst, nb_scr, nb_non, nb_cell, nbs, g_name, g_tup, gsets, wipeD, noOw, itOk, view_int, view_tup, view_bl, view_str, view_lst, view_scr, view_non, at0, at1, at2, at3, ix0, ix1, ix2, tgN, List.map_cons, List.map_nil, List.append_nil, List.nil_append, List.cons_append, List.length_cons, List.length_nil, List.replicate_zero, List.replicate_succ, List.getElem?_cons_zero, List.getElem?_cons_succ, List.set_cons_zero, List.set_cons_succ, List.all_cons, List.all_nil, Bool.and_true, Bool.true_and, Nat.sub_self, Nat.add_sub_cancel_left, zeroNat, if_true, reduceCtorEq, true_and, and_true, ite_true, ite_false, Bool.false_eq_true, if_false, Nat.reduceAdd, Nat.reduceSub, Nat.reduceLT, Nat.zero_add, List.all, Bool.and_self, Int.reduceToNat, List.reduceReplicate, List.flatten_cons, List.flatten_nil, eq_self, permD, List.getD_cons_zero, List.getD_cons_succ, sIx21, List.take_succ_cons, List.take_zero, Nat.reduceLeDiff, and_self, decide_true, decide_false, Bool.not_true, Bool.not_false]
    exact hn _ _
  | true =>
    simp only [↓w_for, ↓w_lc, b_add, b_addT, b_addL, b_sub, b_mul, b_mulL, b_mulT, b_fdiv, b_mod, b_pow, c_lt, c_le, c_gt, c_ge, c_eq, c_ne, c_eqS, c_neS, c_eq_tup, c_ne_tup, c_eq_lst, c_ne_lst, c_eq_bl, c_ne_bl, c_inT, c_ninT, i_int, i_intB, i_abs, i_dm, i_len_tup, i_len_lst, i_len_scr, i_max, i_min, i_gcd, i_isqrt, i_tuple1_tup, i_tuple1_lst, i_list1_tup, i_list1_lst, i_all, i_any, i_sum, i_repr_tup, i_repr_lst, i_repr_bl, i_repr_int, y_bl, y_int, y_str, y_tup, y_lst, y_non, it_tup, it_lst, it_scr, t_bl, t_int, t_tup, t_lst, t_non, w_cons, w_nil, wpS, wpE, wpEs, wpG, wpGs, wpI, wpT, startD, nb_fr, view_fr, it_fr, nb_int, nb_tup, nb_bl, nb_str, nb_lst, nb_scr, nb_non, nb_cell, nbs, g_name, g_tup, gsets, wipeD, noOw, itOk, view_int, view_tup, view_bl, view_str, view_lst, view_scr, view_non, at0, at1, at2, at3, ix0, ix1, ix2, tgN, List.map_cons, List.map_nil, List.append_nil, List.nil_append, List.cons_append, List.length_cons, List.length_nil, List.replicate_zero, List.replicate_succ, List.getElem?_cons_zero, List.getElem?_cons_succ, List.set_cons_zero, List.set_cons_succ, List.all_cons, List.all_nil, Bool.and_true, Bool.true_and, Nat.sub_self, Nat.add_sub_cancel_left, zeroNat, if_true, reduceCtorEq, true_and, and_true, ite_true, ite_false, Bool.false_eq_true, if_false, Nat.reduceAdd, Nat.reduceSub, Nat.reduceLT, Nat.zero_add, List.all, Bool.and_self, Int.reduceToNat, List.reduceReplicate, List.flatten_cons, List.flatten_nil, eq_self, permD, List.getD_cons_zero, List.getD_cons_succ, sIx21, List.take_succ_cons, List.take_zero, Nat.reduceLeDiff, and_self, decide_true, decide_false, Bool.not_true, Bool.not_false]
    refine ⟨by decide, rfl, ?_⟩
    rw [notin_ok k hk]
    cases hc : (k != 2 && k != 5) with
    | false =>
      simp only [↓w_for, ↓w_lc, b_add, b_addT, b_addL, b_sub, b_mul, b_mulL, b_mulT, b_fdiv, b_mod, b_pow, c_lt, c_le, c_gt, c_ge, c_eq, c_ne, c_eqS, c_neS, c_eq_tup, c_ne_tup, c_eq_lst, c_ne_lst, c_eq_bl, c_ne_bl, c_inT, c_ninT, i_int, i_intB, i_abs, i_dm, i_len_tup, i_len_lst, i_len_scr, i_max, i_min, i_gcd, i_isqrt, i_tuple1_tup, i_tuple1_lst, i_list1_tup, i_list1_lst, i_all, i_any, i_sum, i_repr_tup, i_repr_lst, i_repr_bl, i_repr_int, y_bl, y_int, y_str, y_tup, y_lst, y_non, it_tup, it_lst, it_scr, t_bl, t_int, t_tup, t_lst, t_non, w_cons, w_nil, wpS, wpE, wpEs, wpG, wpGs, wpI, wpT, startD, nb_fr, view_fr, it_fr, nb_int, nb_tup, nb_bl, nb_str, nb_lst, nb_scr, nb_non, nb_cell, nbs, g_name, g_tup, gsets, wipeD, noOw, itOk, view_int, view_tup, view_bl, view_str, view_lst, view_scr, view_non, at0, at1, at2, at3, ix0, ix1, ix2, tgN, List.map_cons, List.map_nil, List.append_nil, List.nil_append, List.cons_append, List.length_cons, List.length_nil, List.replicate_zero, List.replicate_succ, List.getElem?_cons_zero, List.getElem?_cons_succ, List.set_cons_zero, List.set_cons_succ, List.all_cons, List.all_nil, Bool.and_true, Bool.true_and, Nat.sub_self, Nat.add_sub_cancel_left, zeroNat, if_true, reduceCtorEq, true_and, and_true, ite_true, ite_false, Bool.false_eq_true, if_false, Nat.reduceAdd, Nat.reduceSub, Nat.reduceLT, Nat.zero_add, List.all, Bool.and_self, Int.reduceToNat, List.reduceReplicate, List.flatten_cons, List.flatten_nil, eq_self, permD, List.getD_cons_zero, List.getD_cons_succ, sIx21, List.take_succ_cons, List.take_zero, Nat.reduceLeDiff, and_self, decide_true, decide_false, Bool.not_true, Bool.not_false]
      exact hn _ _
    | true =>
      simp only [↓w_for, ↓w_lc, b_add, b_addT, b_addL, b_sub, b_mul, b_mulL, b_mulT, b_fdiv, b_mod, b_pow, c_lt, c_le, c_gt, c_ge, c_eq, c_ne, c_eqS, c_neS, c_eq_tup, c_ne_tup, c_eq_lst, c_ne_lst, c_eq_bl, c_ne_bl, c_inT, c_ninT, i_int, i_intB, i_abs, i_dm, i_len_tup, i_len_lst, i_len_scr, i_max, i_min, i_gcd, i_isqrt, i_tuple1_tup, i_tuple1_lst, i_list1_tup, i_list1_lst, i_all, i_any, i_sum, i_repr_tup, i_repr_lst, i_repr_bl, i_repr_int, y_bl, y_int, y_str, y_tup, y_lst, y_non, it_tup, it_lst, it_scr, t_bl, t_int, t_tup, t_lst, t_non, w_cons, w_nil, wpS, wpE, wpEs, wpG, wpGs, wpI, wpT, startD, nb_fr, view_fr, it_fr, nb_int, nb_tup, nb_bl, nb_str, nb_lst, nb_scr, nb_non, nb_cell, nbs, g_name, g_tup, gsets, wipeD, noOw, itOk, view_int, view_tup, view_bl, view_str, view_lst, view_scr, view_non, at0, at1, at2, at3, ix0, ix1, ix2, tgN, List.map_cons, List.map_nil, List.append_nil, List.nil_append, List.cons_append, List.length_cons, List.length_nil, List.replicate_zero, List.replicate_succ, List.getElem?_cons_zero, List.getElem?_cons_succ, List.set_cons_zero, List.set_cons_succ, List.all_cons, List.all_nil, Bool.and_true, Bool.true_and, Nat.sub_self, Nat.add_sub_cancel_left, zeroNat, if_true, reduceCtorEq, true_and, and_true, ite_true, ite_false, Bool.false_eq_true, if_false, Nat.reduceAdd, Nat.reduceSub, Nat.reduceLT, Nat.zero_add, List.all, Bool.and_self, Int.reduceToNat, List.reduceReplicate, List.flatten_cons, List.flatten_nil, eq_self, permD, List.getD_cons_zero, List.getD_cons_succ, sIx21, List.take_succ_cons, List.take_zero, Nat.reduceLeDiff, and_self, decide_true, decide_false, Bool.not_true, Bool.not_false, dsc_nb, e2]
      refine h35 (m + 3) u' r' x y W _ b4 b5 b7 b8 ?_
      simp only [Bool.and_eq_true, bne_iff_ne, ne_eq] at hc
      have z := has_ok b3 hi (ok.lie k _ _ hx hp hc.1 hc.2)
      rw [decide_eq_true z]
      simp only [↓w_for, ↓w_lc, b_add, b_addT, b_addL, b_sub, b_mul, b_mulL, b_mulT, b_fdiv, b_mod, b_pow, c_lt, c_le, c_gt, c_ge, c_eq, c_ne, c_eqS, c_neS, c_eq_tup, c_ne_tup, c_eq_lst, c_ne_lst, c_eq_bl, c_ne_bl, c_inT, c_ninT, i_int, i_intB, i_abs, i_dm, i_len_tup, i_len_lst, i_len_scr, i_max, i_min, i_gcd, i_isqrt, i_tuple1_tup, i_tuple1_lst, i_list1_tup, i_list1_lst, i_all, i_any, i_sum, i_repr_tup, i_repr_lst, i_repr_bl, i_repr_int, y_bl, y_int, y_str, y_tup, y_lst, y_non, it_tup, it_lst, it_scr, t_bl, t_int, t_tup, t_lst, t_non, w_cons, w_nil, wpS, wpE, wpEs, wpG, wpGs, wpI, wpT, startD, nb_fr, view_fr, it_fr, nb_int, nb_tup, nb_bl, nb_str, nb_lst, nb_scr, nb_non, nb_cell, nbs, g_name, g_tup, gsets, wipeD, noOw, itOk, view_int, view_tup, view_bl, view_str, view_lst, view_scr, view_non, at0, at1, at2, at3, ix0, ix1, ix2, tgN, List.map_cons, List.map_nil, List.append_nil, List.nil_append, List.cons_append, List.length_cons, List.length_nil, List.replicate_zero, List.replicate_succ, List.getElem?_cons_zero, List.getElem?_cons_succ, List.set_cons_zero, List.set_cons_succ, List.all_cons, List.all_nil, Bool.and_true, Bool.true_and, Nat.sub_self, Nat.add_sub_cancel_left, zeroNat, if_true, reduceCtorEq, true_and, and_true, ite_true, ite_false, Bool.false_eq_true, if_false, Nat.reduceAdd, Nat.reduceSub, Nat.reduceLT, Nat.zero_add, List.all, Bool.and_self, Int.reduceToNat, List.reduceReplicate, List.flatten_cons, List.flatten_nil, eq_self, permD, List.getD_cons_zero, List.getD_cons_succ, sIx21, List.take_succ_cons, List.take_zero, Nat.reduceLeDiff, and_self, decide_true, decide_false, Bool.not_true, Bool.not_false]
      exact hn _ _
theorem outer {m : Nat} {xs ps : List (Rat × Rat)} (ok : Ok xs ps) {a0 a1 a2 a3 a4 a5 a6 a7 a8 a9 a10 a12 z14 z15 z16 : SV} {W : Ce} {d : Ed}
    (hn : ∀ y14 y15 y16 : SV, d.nx [a0, a1, a2, a3, a4, a5, a6, a7, a8, a9, a10, .sh (.lst (Ds xs)), a12, .sh (.lst (Ds ps)), y14, y15, y16] W) :
    forL (forB ⟨wpC fs cs (m + 7), cs⟩ (.name 14) bOut) (rngD 0 (6 : Int).toNat) [a0, a1, a2, a3, a4, a5, a6, a7, a8, a9, a10, .sh (.lst (Ds xs)), a12, .sh (.lst (Ds ps)), z14, z15, z16] W d := by
  refine forL_rest (P := fun r σ W' => W' = W ∧ (∀ x ∈ r, ∃ k : Nat, k < 6 ∧ x = .int k) ∧ ∃ y14 y15 y16 : SV, σ = [a0, a1, a2, a3, a4, a5, a6, a7, a8, a9, a10, .sh (.lst (Ds xs)), a12, .sh (.lst (Ds ps)), y14, y15, y16]) ?_ ?_ _ _ _ ⟨rfl, ?_, _, _, _, rfl⟩
  · rintro x r σ W' e ⟨rfl, hr, y14, y15, y16, rfl⟩ en ec er eb
    obtain ⟨k, hk, rfl⟩ := hr x List.mem_cons_self
    simp only [forB, bOut, ↓w_for, ↓w_lc, b_add, b_addT, b_addL, b_sub, b_mul, b_mulL, b_mulT, b_fdiv, b_mod, b_pow, c_lt, c_le, c_gt, c_ge, c_eq, c_ne, c_eqS, c_neS, c_eq_tup, c_ne_tup, c_eq_lst, c_ne_lst, c_eq_bl, c_ne_bl, c_inT, c_ninT, i_int, i_intB, i_abs, i_dm, i_len_tup, i_len_lst, i_len_scr, i_max, i_min, i_gcd, i_isqrt, i_tuple1_tup, i_tuple1_lst, i_list1_tup, i_list1_lst, i_all, i_any, i_sum, i_repr_tup, i_repr_lst, i_repr_bl, i_repr_int, y_bl, y_int, y_str, y_tup, y_lst, y_non, it_tup, it_lst, it_scr, t_bl, t_int, t_tup, t_lst, t_non, w_cons, w_nil, wpS, wpE, wpEs, wpG, wpGs, wpI, wpT, startD, nb_fr, view_fr, it_fr, nb_int, nb_tup, nb_bl, nb_str, nb_lst, nb_scr, nb_non, nb_cell, nbs, g_name, g_tup, gsets, wipeD, noOw, itOk, view_int, view_tup, view_bl, view_str, view_lst, view_scr, view_non, at0, at1, at2, at3, ix0, ix1, ix2, tgN, List.map_cons, List.map_nil, List.append_nil, List.nil_append, List.cons_append, List.length_cons, List.length_nil, List.replicate_zero, List.replicate_succ, List.getElem?_cons_zero, List.getElem?_cons_succ, List.set_cons_zero, List.set_cons_succ, List.all_cons, List.all_nil, Bool.and_true, Bool.true_and, Nat.sub_self, Nat.add_sub_cancel_left, zeroNat, if_true, reduceCtorEq, true_and, and_true, ite_true, ite_false, Bool.false_eq_true, if_false, Nat.reduceAdd, Nat.reduceSub, Nat.reduceLT, Nat.zero_add, List.all, Bool.and_self, Int.reduceToNat, List.reduceReplicate, List.flatten_cons, List.flatten_nil, eq_self, permD, List.getD_cons_zero, List.getD_cons_succ, sIx21, List.take_succ_cons, List.take_zero, Nat.reduceLeDiff, and_self, decide_true, decide_false, Bool.not_true, Bool.not_false]
    refine forL_rest (P := fun r σ W1 => W1 = W' ∧ (∀ x ∈ r, ∃ p ∈ xs, x = dsc p.1 p.2) ∧ ∃ y15 y16 : SV, σ = [a0, a1, a2, a3, a4, a5, a6, a7, a8, a9, a10, .sh (.lst (Ds xs)), a12, .sh (.lst (Ds ps)), .sh (.int k), y15, y16]) ?_ ?_ _ _ _ ⟨rfl, ?_, _, _, rfl⟩
    · rintro x r' σ W1 e' ⟨rfl, hr', y15, y16, rfl⟩ en' ec' er' eb'
      obtain ⟨⟨u', r''⟩, hp, rfl⟩ := hr' x List.mem_cons_self
      exact inner ok hk hp fun y15 y16 => en' _ _ ⟨rfl, fun z hz => hr' z (List.mem_cons_of_mem _ hz), _, _, rfl⟩
    · rintro σ W1 ⟨rfl, _, y15, y16, rfl⟩
      refine rest_go ?_
      simp only [↓w_for, ↓w_lc, b_add, b_addT, b_addL, b_sub, b_mul, b_mulL, b_mulT, b_fdiv, b_mod, b_pow, c_lt, c_le, c_gt, c_ge, c_eq, c_ne, c_eqS, c_neS, c_eq_tup, c_ne_tup, c_eq_lst, c_ne_lst, c_eq_bl, c_ne_bl, c_inT, c_ninT, i_int, i_intB, i_abs, i_dm, i_len_tup, i_len_lst, i_len_scr, i_max, i_min, i_gcd, i_isqrt, i_tuple1_tup, i_tuple1_lst, i_list1_tup, i_list1_lst, i_all, i_any, i_sum, i_repr_tup, i_repr_lst, i_repr_bl, i_repr_int, y_bl, y_int, y_str, y_tup, y_lst, y_non, it_tup, it_lst, it_scr, t_bl, t_int, t_tup, t_lst, t_non, w_cons, w_nil, wpS, wpE, wpEs, wpG, wpGs, wpI, wpT, startD, nb_fr, view_fr, it_fr, nb_int, nb_tup, nb_bl, nb_str, nb_lst, nb_scr, nb_non, nb_cell, nbs, g_name, g_tup, gsets, wipeD, noOw, itOk, view_int, view_tup, view_bl, view_str, view_lst, view_scr, view_non, at0, at1, at2, at3, ix0, ix1, ix2, tgN, List.map_cons, List.map_nil, List.append_nil, List.nil_append, List.cons_append, List.length_cons, List.length_nil, List.replicate_zero, List.replicate_succ, List.getElem?_cons_zero, List.getElem?_cons_succ, List.set_cons_zero, List.set_cons_succ, List.all_cons, List.all_nil, Bool.and_true, Bool.true_and, Nat.sub_self, Nat.add_sub_cancel_left, zeroNat, if_true, reduceCtorEq, true_and, and_true, ite_true, ite_false, Bool.false_eq_true, if_false, Nat.reduceAdd, Nat.reduceSub, Nat.reduceLT, Nat.zero_add, List.all, Bool.and_self, Int.reduceToNat, List.reduceReplicate, List.flatten_cons, List.flatten_nil, eq_self, permD, List.getD_cons_zero, List.getD_cons_succ, sIx21, List.take_succ_cons, List.take_zero, Nat.reduceLeDiff, and_self, decide_true, decide_false, Bool.not_true, Bool.not_false]
      exact en _ _ ⟨rfl, fun z hz => hr z (List.mem_cons_of_mem _ hz), _, _, _, rfl⟩
    · intro x hx
      obtain ⟨p, hp, rfl⟩ := List.mem_map.mp hx
      exact ⟨p, hp, rfl⟩
  · rintro σ W' ⟨rfl, _, y14, y15, y16, rfl⟩
    exact hn _ _ _
  · intro x hx
    unfold rngD at hx
    obtain ⟨k, hk, rfl⟩ := List.mem_map.mp hx
    exact ⟨k, List.mem_range.mp hk, by rw [Int.zero_add]⟩
end K20

set_option Elab.async false
set_option linter.all false
set_option maxRecDepth 100000
set_option maxHeartbeats 0
namespace K20
open PySem L2 Bn
theorem repr_dsc {c r : Rat} {Q : D → Prop} : biD .repr1 [dsc c r] Q = (((dsc c r).plain = true ∧ (dsc c r).py.showable = true ∧ (dsc c r).py.depth ≤ 60 ∧ (dsc c r).py.shown.length ≤ sizeLine) ∧ Q (.str (dsc c r).py.shown)) := rfl
theorem dsc_rp {b : Nat} {c r : Rat} (h1 : Bd b c) (h2 : Bd b r) (l : b ≤ 1900) : (dsc c r).rp := by
  simp only [dsc, D.rp, rps]
  exact ⟨fr_rp h1 l, fr_rp h2 l, trivial⟩
abbrev RpOk (d : D) : Prop := d.plain = true ∧ d.py.showable = true ∧ d.py.depth ≤ 60 ∧ d.py.shown.length ≤ sizeLine
theorem dsc_ok {b : Nat} {c r : Rat} (h1 : Bd b c) (h2 : Bd b r) (l : b ≤ 1900) : RpOk (dsc c r) := repr_ok (dsc_rp h1 h2 l) rfl rfl
theorem dsc2_ok {b : Nat} {c r c' r' : Rat} (h1 : Bd b c) (h2 : Bd b r) (h3 : Bd b c') (h4 : Bd b r') (l : b ≤ 1900) : RpOk (.lst [dsc c r, dsc c' r']) := repr_ok (d := .lst [dsc c r, dsc c' r']) (by
  simp only [D.rp, rps]
  exact ⟨dsc_rp h1 h2 l, dsc_rp h3 h4 l, trivial⟩) rfl rfl
theorem bl_ok (z : Bool) : (D.bl z).plain = true ∧ (D.bl z).py.showable = true ∧ (D.bl z).py.depth ≤ 60 ∧ (D.bl z).py.shown.length ≤ sizeLine :=
  repr_ok (by simp only [D.rp]) rfl rfl
theorem h42 (m k c : Nat) (W : Ce) (Q : D → Ce → Prop) (hw : Wl k (c + 24) W) (hQ : ∀ W', Q (.bl true) W') : wpC fs cs (m + 8) 42 [.cell k] W Q := by
  refine wpC_step (f := f42) rfl rfl ?_
  simp only [f42, ↓w_for, ↓w_lc, b_add, b_addT, b_addL, b_sub, b_mul, b_mulL, b_mulT, b_fdiv, b_mod, b_pow, c_lt, c_le, c_gt, c_ge, c_eq, c_ne, c_eqS, c_neS, c_eq_tup, c_ne_tup, c_eq_lst, c_ne_lst, c_eq_bl, c_ne_bl, c_inT, c_ninT, i_int, i_intB, i_abs, i_dm, i_len_tup, i_len_lst, i_len_scr, i_max, i_min, i_gcd, i_isqrt, i_tuple1_tup, i_tuple1_lst, i_list1_tup, i_list1_lst, i_all, i_any, i_sum, i_repr_tup, i_repr_lst, i_repr_bl, i_repr_int, y_bl, y_int, y_str, y_tup, y_lst, y_non, it_tup, it_lst, it_scr, t_bl, t_int, t_tup, t_lst, t_non, w_cons, w_nil, wpS, wpE, wpEs, wpG, wpGs, wpI, wpT, startD, nb_fr, view_fr, it_fr, nb_int, nb_tup, nb_bl, nb_str, nb_lst, nb_scr, nb_non, nb_cell, nbs, g_name, g_tup, gsets, wipeD, noOw, itOk, view_int, view_tup, view_bl, view_str, view_lst, view_scr, view_non, at0, at1, at2, at3, ix0, ix1, ix2, tgN, List.map_cons, List.map_nil, List.append_nil, List.nil_append, List.cons_append, List.length_cons, List.length_nil, List.replicate_zero, List.replicate_succ, List.getElem?_cons_zero, List.getElem?_cons_succ, List.set_cons_zero, List.set_cons_succ, List.all_cons, List.all_nil, Bool.and_true, Bool.true_and, Nat.sub_self, Nat.add_sub_cancel_left, zeroNat, if_true, reduceCtorEq, true_and, and_true, ite_true, ite_false, Bool.false_eq_true, if_false, Nat.reduceAdd, Nat.reduceSub, Nat.reduceLT, Nat.zero_add, List.all, Bool.and_self, Int.reduceToNat, List.reduceReplicate, List.flatten_cons, List.flatten_nil, eq_self, permD, List.getD_cons_zero, List.getD_cons_succ, sIx21, List.take_succ_cons, List.take_zero, Nat.reduceLeDiff, and_self, decide_true, decide_false, Bool.not_true, Bool.not_false]
  refine h32 (m + 3) k (c + 20) W _ hw (fun u1 r1 W1 bu1 br1 p1 hw1 => ?_)
  try simp only [↓w_for, ↓w_lc, b_add, b_addT, b_addL, b_sub, b_mul, b_mulL, b_mulT, b_fdiv, b_mod, b_pow, c_lt, c_le, c_gt, c_ge, c_eq, c_ne, c_eqS, c_neS, c_eq_tup, c_ne_tup, c_eq_lst, c_ne_lst, c_eq_bl, c_ne_bl, c_inT, c_ninT, i_int, i_intB, i_abs, i_dm, i_len_tup, i_len_lst, i_len_scr, i_max, i_min, i_gcd, i_isqrt, i_tuple1_tup, i_tuple1_lst, i_list1_tup, i_list1_lst, i_all, i_any, i_sum, i_repr_tup, i_repr_lst, i_repr_bl, i_repr_int, y_bl, y_int, y_str, y_tup, y_lst, y_non, it_tup, it_lst, it_scr, t_bl, t_int, t_tup, t_lst, t_non, w_cons, w_nil, wpS, wpE, wpEs, wpG, wpGs, wpI, wpT, startD, nb_fr, view_fr, it_fr, nb_int, nb_tup, nb_bl, nb_str, nb_lst, nb_scr, nb_non, nb_cell, nbs, g_name, g_tup, gsets, wipeD, noOw, itOk, view_int, view_tup, view_bl, view_str, view_lst, view_scr, view_non, at0, at1, at2, at3, ix0, ix1, ix2, tgN, List.map_cons, List.map_nil, List.append_nil, List.nil_append, List.cons_append, List.length_cons, List.length_nil, List.replicate_zero, List.replicate_succ, List.getElem?_cons_zero, List.getElem?_cons_succ, List.set_cons_zero, List.set_cons_succ, List.all_cons, List.all_nil, Bool.and_true, Bool.true_and, Nat.sub_self, Nat.add_sub_cancel_left, zeroNat, if_true, reduceCtorEq, true_and, and_true, ite_true, ite_false, Bool.false_eq_true, if_false, Nat.reduceAdd, Nat.reduceSub, Nat.reduceLT, Nat.zero_add, List.all, Bool.and_self, Int.reduceToNat, List.reduceReplicate, List.flatten_cons, List.flatten_nil, eq_self, permD, List.getD_cons_zero, List.getD_cons_succ, sIx21, List.take_succ_cons, List.take_zero, Nat.reduceLeDiff, and_self, decide_true, decide_false, Bool.not_true, Bool.not_false]
  refine h32 (m + 3) k (c + 16) W1 _ hw1 (fun u2 r2 W2 bu2 br2 p2 hw2 => ?_)
  try simp only [↓w_for, ↓w_lc, b_add, b_addT, b_addL, b_sub, b_mul, b_mulL, b_mulT, b_fdiv, b_mod, b_pow, c_lt, c_le, c_gt, c_ge, c_eq, c_ne, c_eqS, c_neS, c_eq_tup, c_ne_tup, c_eq_lst, c_ne_lst, c_eq_bl, c_ne_bl, c_inT, c_ninT, i_int, i_intB, i_abs, i_dm, i_len_tup, i_len_lst, i_len_scr, i_max, i_min, i_gcd, i_isqrt, i_tuple1_tup, i_tuple1_lst, i_list1_tup, i_list1_lst, i_all, i_any, i_sum, i_repr_tup, i_repr_lst, i_repr_bl, i_repr_int, y_bl, y_int, y_str, y_tup, y_lst, y_non, it_tup, it_lst, it_scr, t_bl, t_int, t_tup, t_lst, t_non, w_cons, w_nil, wpS, wpE, wpEs, wpG, wpGs, wpI, wpT, startD, nb_fr, view_fr, it_fr, nb_int, nb_tup, nb_bl, nb_str, nb_lst, nb_scr, nb_non, nb_cell, nbs, g_name, g_tup, gsets, wipeD, noOw, itOk, view_int, view_tup, view_bl, view_str, view_lst, view_scr, view_non, at0, at1, at2, at3, ix0, ix1, ix2, tgN, List.map_cons, List.map_nil, List.append_nil, List.nil_append, List.cons_append, List.length_cons, List.length_nil, List.replicate_zero, List.replicate_succ, List.getElem?_cons_zero, List.getElem?_cons_succ, List.set_cons_zero, List.set_cons_succ, List.all_cons, List.all_nil, Bool.and_true, Bool.true_and, Nat.sub_self, Nat.add_sub_cancel_left, zeroNat, if_true, reduceCtorEq, true_and, and_true, ite_true, ite_false, Bool.false_eq_true, if_false, Nat.reduceAdd, Nat.reduceSub, Nat.reduceLT, Nat.zero_add, List.all, Bool.and_self, Int.reduceToNat, List.reduceReplicate, List.flatten_cons, List.flatten_nil, eq_self, permD, List.getD_cons_zero, List.getD_cons_succ, sIx21, List.take_succ_cons, List.take_zero, Nat.reduceLeDiff, and_self, decide_true, decide_false, Bool.not_true, Bool.not_false, dsc_nb]
  refine rest_go ?_
  try simp only [↓w_for, ↓w_lc, b_add, b_addT, b_addL, b_sub, b_mul, b_mulL, b_mulT, b_fdiv, b_mod, b_pow, c_lt, c_le, c_gt, c_ge, c_eq, c_ne, c_eqS, c_neS, c_eq_tup, c_ne_tup, c_eq_lst, c_ne_lst, c_eq_bl, c_ne_bl, c_inT, c_ninT, i_int, i_intB, i_abs, i_dm, i_len_tup, i_len_lst, i_len_scr, i_max, i_min, i_gcd, i_isqrt, i_tuple1_tup, i_tuple1_lst, i_list1_tup, i_list1_lst, i_all, i_any, i_sum, i_repr_tup, i_repr_lst, i_repr_bl, i_repr_int, y_bl, y_int, y_str, y_tup, y_lst, y_non, it_tup, it_lst, it_scr, t_bl, t_int, t_tup, t_lst, t_non, w_cons, w_nil, wpS, wpE, wpEs, wpG, wpGs, wpI, wpT, startD, nb_fr, view_fr, it_fr, nb_int, nb_tup, nb_bl, nb_str, nb_lst, nb_scr, nb_non, nb_cell, nbs, g_name, g_tup, gsets, wipeD, noOw, itOk, view_int, view_tup, view_bl, view_str, view_lst, view_scr, view_non, at0, at1, at2, at3, ix0, ix1, ix2, tgN, List.map_cons, List.map_nil, List.append_nil, List.nil_append, List.cons_append, List.length_cons, List.length_nil, List.replicate_zero, List.replicate_succ, List.getElem?_cons_zero, List.getElem?_cons_succ, List.set_cons_zero, List.set_cons_succ, List.all_cons, List.all_nil, Bool.and_true, Bool.true_and, Nat.sub_self, Nat.add_sub_cancel_left, zeroNat, if_true, reduceCtorEq, true_and, and_true, ite_true, ite_false, Bool.false_eq_true, if_false, Nat.reduceAdd, Nat.reduceSub, Nat.reduceLT, Nat.zero_add, List.all, Bool.and_self, Int.reduceToNat, List.reduceReplicate, List.flatten_cons, List.flatten_nil, eq_self, permD, List.getD_cons_zero, List.getD_cons_succ, sIx21, List.take_succ_cons, List.take_zero, Nat.reduceLeDiff, and_self, decide_true, decide_false, Bool.not_true, Bool.not_false, dsc_nb]
  refine h33 (m + 3) k (c + 13) u1 r1 W2 _ (bu1.mono (by decide)) (br1.mono (by decide)) hw2 (fun uf rf W3 buf brf pf hw3 => ?_)
  try simp only [↓w_for, ↓w_lc, b_add, b_addT, b_addL, b_sub, b_mul, b_mulL, b_mulT, b_fdiv, b_mod, b_pow, c_lt, c_le, c_gt, c_ge, c_eq, c_ne, c_eqS, c_neS, c_eq_tup, c_ne_tup, c_eq_lst, c_ne_lst, c_eq_bl, c_ne_bl, c_inT, c_ninT, i_int, i_intB, i_abs, i_dm, i_len_tup, i_len_lst, i_len_scr, i_max, i_min, i_gcd, i_isqrt, i_tuple1_tup, i_tuple1_lst, i_list1_tup, i_list1_lst, i_all, i_any, i_sum, i_repr_tup, i_repr_lst, i_repr_bl, i_repr_int, y_bl, y_int, y_str, y_tup, y_lst, y_non, it_tup, it_lst, it_scr, t_bl, t_int, t_tup, t_lst, t_non, w_cons, w_nil, wpS, wpE, wpEs, wpG, wpGs, wpI, wpT, startD, nb_fr, view_fr, it_fr, nb_int, nb_tup, nb_bl, nb_str, nb_lst, nb_scr, nb_non, nb_cell, nbs, g_name, g_tup, gsets, wipeD, noOw, itOk, view_int, view_tup, view_bl, view_str, view_lst, view_scr, view_non, at0, at1, at2, at3, ix0, ix1, ix2, tgN, List.map_cons, List.map_nil, List.append_nil, List.nil_append, List.cons_append, List.length_cons, List.length_nil, List.replicate_zero, List.replicate_succ, List.getElem?_cons_zero, List.getElem?_cons_succ, List.set_cons_zero, List.set_cons_succ, List.all_cons, List.all_nil, Bool.and_true, Bool.true_and, Nat.sub_self, Nat.add_sub_cancel_left, zeroNat, if_true, reduceCtorEq, true_and, and_true, ite_true, ite_false, Bool.false_eq_true, if_false, Nat.reduceAdd, Nat.reduceSub, Nat.reduceLT, Nat.zero_add, List.all, Bool.and_self, Int.reduceToNat, List.reduceReplicate, List.flatten_cons, List.flatten_nil, eq_self, permD, List.getD_cons_zero, List.getD_cons_succ, sIx21, List.take_succ_cons, List.take_zero, Nat.reduceLeDiff, and_self, decide_true, decide_false, Bool.not_true, Bool.not_false, dsc_nb]
  refine h30 (m + 4) k (c + 11) 3 3 W3 _ hw3 (by decide) (by decide) (by decide) (by decide) (fun q W4 bq hw4 => ?_)
  try simp only [↓w_for, ↓w_lc, b_add, b_addT, b_addL, b_sub, b_mul, b_mulL, b_mulT, b_fdiv, b_mod, b_pow, c_lt, c_le, c_gt, c_ge, c_eq, c_ne, c_eqS, c_neS, c_eq_tup, c_ne_tup, c_eq_lst, c_ne_lst, c_eq_bl, c_ne_bl, c_inT, c_ninT, i_int, i_intB, i_abs, i_dm, i_len_tup, i_len_lst, i_len_scr, i_max, i_min, i_gcd, i_isqrt, i_tuple1_tup, i_tuple1_lst, i_list1_tup, i_list1_lst, i_all, i_any, i_sum, i_repr_tup, i_repr_lst, i_repr_bl, i_repr_int, y_bl, y_int, y_str, y_tup, y_lst, y_non, it_tup, it_lst, it_scr, t_bl, t_int, t_tup, t_lst, t_non, w_cons, w_nil, wpS, wpE, wpEs, wpG, wpGs, wpI, wpT, startD, nb_fr, view_fr, it_fr, nb_int, nb_tup, nb_bl, nb_str, nb_lst, nb_scr, nb_non, nb_cell, nbs, g_name, g_tup, gsets, wipeD, noOw, itOk, view_int, view_tup, view_bl, view_str, view_lst, view_scr, view_non, at0, at1, at2, at3, ix0, ix1, ix2, tgN, List.map_cons, List.map_nil, List.append_nil, List.nil_append, List.cons_append, List.length_cons, List.length_nil, List.replicate_zero, List.replicate_succ, List.getElem?_cons_zero, List.getElem?_cons_succ, List.set_cons_zero, List.set_cons_succ, List.all_cons, List.all_nil, Bool.and_true, Bool.true_and, Nat.sub_self, Nat.add_sub_cancel_left, zeroNat, if_true, reduceCtorEq, true_and, and_true, ite_true, ite_false, Bool.false_eq_true, if_false, Nat.reduceAdd, Nat.reduceSub, Nat.reduceLT, Nat.zero_add, List.all, Bool.and_self, Int.reduceToNat, List.reduceReplicate, List.flatten_cons, List.flatten_nil, eq_self, permD, List.getD_cons_zero, List.getD_cons_succ, sIx21, List.take_succ_cons, List.take_zero, Nat.reduceLeDiff, and_self, decide_true, decide_false, Bool.not_true, Bool.not_false, dsc_nb]
  refine rest_go ?_
  try simp only [↓w_for, ↓w_lc, b_add, b_addT, b_addL, b_sub, b_mul, b_mulL, b_mulT, b_fdiv, b_mod, b_pow, c_lt, c_le, c_gt, c_ge, c_eq, c_ne, c_eqS, c_neS, c_eq_tup, c_ne_tup, c_eq_lst, c_ne_lst, c_eq_bl, c_ne_bl, c_inT, c_ninT, i_int, i_intB, i_abs, i_dm, i_len_tup, i_len_lst, i_len_scr, i_max, i_min, i_gcd, i_isqrt, i_tuple1_tup, i_tuple1_lst, i_list1_tup, i_list1_lst, i_all, i_any, i_sum, i_repr_tup, i_repr_lst, i_repr_bl, i_repr_int, y_bl, y_int, y_str, y_tup, y_lst, y_non, it_tup, it_lst, it_scr, t_bl, t_int, t_tup, t_lst, t_non, w_cons, w_nil, wpS, wpE, wpEs, wpG, wpGs, wpI, wpT, startD, nb_fr, view_fr, it_fr, nb_int, nb_tup, nb_bl, nb_str, nb_lst, nb_scr, nb_non, nb_cell, nbs, g_name, g_tup, gsets, wipeD, noOw, itOk, view_int, view_tup, view_bl, view_str, view_lst, view_scr, view_non, at0, at1, at2, at3, ix0, ix1, ix2, tgN, List.map_cons, List.map_nil, List.append_nil, List.nil_append, List.cons_append, List.length_cons, List.length_nil, List.replicate_zero, List.replicate_succ, List.getElem?_cons_zero, List.getElem?_cons_succ, List.set_cons_zero, List.set_cons_succ, List.all_cons, List.all_nil, Bool.and_true, Bool.true_and, Nat.sub_self, Nat.add_sub_cancel_left, zeroNat, if_true, reduceCtorEq, true_and, and_true, ite_true, ite_false, Bool.false_eq_true, if_false, Nat.reduceAdd, Nat.reduceSub, Nat.reduceLT, Nat.zero_add, List.all, Bool.and_self, Int.reduceToNat, List.reduceReplicate, List.flatten_cons, List.flatten_nil, eq_self, permD, List.getD_cons_zero, List.getD_cons_succ, sIx21, List.take_succ_cons, List.take_zero, Nat.reduceLeDiff, and_self, decide_true, decide_false, Bool.not_true, Bool.not_false, dsc_nb]
  refine h34 (m + 3) k (c + 7) u1 r1 W4 _ bu1 br1 p1 hw4 (fun x1 y1 W5 bx1 by1 in1 hw5 => ?_)
  try simp only [↓w_for, ↓w_lc, b_add, b_addT, b_addL, b_sub, b_mul, b_mulL, b_mulT, b_fdiv, b_mod, b_pow, c_lt, c_le, c_gt, c_ge, c_eq, c_ne, c_eqS, c_neS, c_eq_tup, c_ne_tup, c_eq_lst, c_ne_lst, c_eq_bl, c_ne_bl, c_inT, c_ninT, i_int, i_intB, i_abs, i_dm, i_len_tup, i_len_lst, i_len_scr, i_max, i_min, i_gcd, i_isqrt, i_tuple1_tup, i_tuple1_lst, i_list1_tup, i_list1_lst, i_all, i_any, i_sum, i_repr_tup, i_repr_lst, i_repr_bl, i_repr_int, y_bl, y_int, y_str, y_tup, y_lst, y_non, it_tup, it_lst, it_scr, t_bl, t_int, t_tup, t_lst, t_non, w_cons, w_nil, wpS, wpE, wpEs, wpG, wpGs, wpI, wpT, startD, nb_fr, view_fr, it_fr, nb_int, nb_tup, nb_bl, nb_str, nb_lst, nb_scr, nb_non, nb_cell, nbs, g_name, g_tup, gsets, wipeD, noOw, itOk, view_int, view_tup, view_bl, view_str, view_lst, view_scr, view_non, at0, at1, at2, at3, ix0, ix1, ix2, tgN, List.map_cons, List.map_nil, List.append_nil, List.nil_append, List.cons_append, List.length_cons, List.length_nil, List.replicate_zero, List.replicate_succ, List.getElem?_cons_zero, List.getElem?_cons_succ, List.set_cons_zero, List.set_cons_succ, List.all_cons, List.all_nil, Bool.and_true, Bool.true_and, Nat.sub_self, Nat.add_sub_cancel_left, zeroNat, if_true, reduceCtorEq, true_and, and_true, ite_true, ite_false, Bool.false_eq_true, if_false, Nat.reduceAdd, Nat.reduceSub, Nat.reduceLT, Nat.zero_add, List.all, Bool.and_self, Int.reduceToNat, List.reduceReplicate, List.flatten_cons, List.flatten_nil, eq_self, permD, List.getD_cons_zero, List.getD_cons_succ, sIx21, List.take_succ_cons, List.take_zero, Nat.reduceLeDiff, and_self, decide_true, decide_false, Bool.not_true, Bool.not_false, dsc_nb]
  refine h34 (m + 3) k (c + 3) u2 r2 W5 _ bu2 br2 p2 hw5 (fun x2 y2 W6 bx2 by2 in2 hw6 => ?_)
  try simp only [↓w_for, ↓w_lc, b_add, b_addT, b_addL, b_sub, b_mul, b_mulL, b_mulT, b_fdiv, b_mod, b_pow, c_lt, c_le, c_gt, c_ge, c_eq, c_ne, c_eqS, c_neS, c_eq_tup, c_ne_tup, c_eq_lst, c_ne_lst, c_eq_bl, c_ne_bl, c_inT, c_ninT, i_int, i_intB, i_abs, i_dm, i_len_tup, i_len_lst, i_len_scr, i_max, i_min, i_gcd, i_isqrt, i_tuple1_tup, i_tuple1_lst, i_list1_tup, i_list1_lst, i_all, i_any, i_sum, i_repr_tup, i_repr_lst, i_repr_bl, i_repr_int, y_bl, y_int, y_str, y_tup, y_lst, y_non, it_tup, it_lst, it_scr, t_bl, t_int, t_tup, t_lst, t_non, w_cons, w_nil, wpS, wpE, wpEs, wpG, wpGs, wpI, wpT, startD, nb_fr, view_fr, it_fr, nb_int, nb_tup, nb_bl, nb_str, nb_lst, nb_scr, nb_non, nb_cell, nbs, g_name, g_tup, gsets, wipeD, noOw, itOk, view_int, view_tup, view_bl, view_str, view_lst, view_scr, view_non, at0, at1, at2, at3, ix0, ix1, ix2, tgN, List.map_cons, List.map_nil, List.append_nil, List.nil_append, List.cons_append, List.length_cons, List.length_nil, List.replicate_zero, List.replicate_succ, List.getElem?_cons_zero, List.getElem?_cons_succ, List.set_cons_zero, List.set_cons_succ, List.all_cons, List.all_nil, Bool.and_true, Bool.true_and, Nat.sub_self, Nat.add_sub_cancel_left, zeroNat, if_true, reduceCtorEq, true_and, and_true, ite_true, ite_false, Bool.false_eq_true, if_false, Nat.reduceAdd, Nat.reduceSub, Nat.reduceLT, Nat.zero_add, List.all, Bool.and_self, Int.reduceToNat, List.reduceReplicate, List.flatten_cons, List.flatten_nil, eq_self, permD, List.getD_cons_zero, List.getD_cons_succ, sIx21, List.take_succ_cons, List.take_zero, Nat.reduceLeDiff, and_self, decide_true, decide_false, Bool.not_true, Bool.not_false, dsc_nb]
  refine rest_go ?_
  -- sizes
  have cu1 := bu1.mono (show 24 ≤ 200 by decide)
  have cr1 := br1.mono (show 24 ≤ 200 by decide)
  have cu2 := bu2.mono (show 24 ≤ 200 by decide)
  have cr2 := br2.mono (show 24 ≤ 200 by decide)
  have cq := bq.mono (show 12 ≤ 200 by decide)
  have bus := (bu1.add bu2).mono (show 24 + 24 + 1 ≤ 100 by decide)
  have brs := (br1.add br2).mono (show 24 + 24 + 1 ≤ 100 by decide)
  have bum := (bq.mul bu1).mono (show 12 + 24 ≤ 100 by decide)
  have brm := (bq.abs.mul br1).mono (show 12 + 24 ≤ 100 by decide)
  have ps : 0 ≤ r1 + r2 := Rat.add_nonneg p1 p2
  have aq : 0 ≤ absR q := by unfold absR; split <;> grind
  have pm : 0 ≤ absR q * r1 := Rat.mul_nonneg aq p1
  have m5 : ∀ {b : Nat} {z : Rat}, Bd b z → b ≤ 500 → Bd 500 z := fun h l => h.mono l
  try simp only [↓w_for, ↓w_lc, b_add, b_addT, b_addL, b_sub, b_mul, b_mulL, b_mulT, b_fdiv, b_mod, b_pow, c_lt, c_le, c_gt, c_ge, c_eq, c_ne, c_eqS, c_neS, c_eq_tup, c_ne_tup, c_eq_lst, c_ne_lst, c_eq_bl, c_ne_bl, c_inT, c_ninT, i_int, i_intB, i_abs, i_dm, i_len_tup, i_len_lst, i_len_scr, i_max, i_min, i_gcd, i_isqrt, i_tuple1_tup, i_tuple1_lst, i_list1_tup, i_list1_lst, i_all, i_any, i_sum, i_repr_tup, i_repr_lst, i_repr_bl, i_repr_int, y_bl, y_int, y_str, y_tup, y_lst, y_non, it_tup, it_lst, it_scr, t_bl, t_int, t_tup, t_lst, t_non, w_cons, w_nil, wpS, wpE, wpEs, wpG, wpGs, wpI, wpT, startD, nb_fr, view_fr, it_fr, nb_int, nb_tup, nb_bl, nb_str, nb_lst, nb_scr, nb_non, nb_cell, nbs, g_name, g_tup, gsets, wipeD, noOw, itOk, view_int, view_tup, view_bl, view_str, view_lst, view_scr, view_non, at0, at1, at2, at3, ix0, ix1, ix2, tgN, List.map_cons, List.map_nil, List.append_nil, List.nil_append, List.cons_append, List.length_cons, List.length_nil, List.replicate_zero, List.replicate_succ, List.getElem?_cons_zero, List.getElem?_cons_succ, List.set_cons_zero, List.set_cons_succ, List.all_cons, List.all_nil, Bool.and_true, Bool.true_and, Nat.sub_self, Nat.add_sub_cancel_left, zeroNat, if_true, reduceCtorEq, true_and, and_true, ite_true, ite_false, Bool.false_eq_true, if_false, Nat.reduceAdd, Nat.reduceSub, Nat.reduceLT, Nat.zero_add, List.all, Bool.and_self, Int.reduceToNat, List.reduceReplicate, List.flatten_cons, List.flatten_nil, eq_self, permD, List.getD_cons_zero, List.getD_cons_succ, sIx21, List.take_succ_cons, List.take_zero, Nat.reduceLeDiff, and_self, decide_true, decide_false, Bool.not_true, Bool.not_false, dsc_nb]
  refine h18 m u1 r1 u2 r2 W6 _ (m5 bu1 (by decide)) (m5 br1 (by decide)) (m5 bu2 (by decide)) (m5 br2 (by decide)) p1 p2 ?_
  try simp only [↓w_for, ↓w_lc, b_add, b_addT, b_addL, b_sub, b_mul, b_mulL, b_mulT, b_fdiv, b_mod, b_pow, c_lt, c_le, c_gt, c_ge, c_eq, c_ne, c_eqS, c_neS, c_eq_tup, c_ne_tup, c_eq_lst, c_ne_lst, c_eq_bl, c_ne_bl, c_inT, c_ninT, i_int, i_intB, i_abs, i_dm, i_len_tup, i_len_lst, i_len_scr, i_max, i_min, i_gcd, i_isqrt, i_tuple1_tup, i_tuple1_lst, i_list1_tup, i_list1_lst, i_all, i_any, i_sum, i_repr_tup, i_repr_lst, i_repr_bl, i_repr_int, y_bl, y_int, y_str, y_tup, y_lst, y_non, it_tup, it_lst, it_scr, t_bl, t_int, t_tup, t_lst, t_non, w_cons, w_nil, wpS, wpE, wpEs, wpG, wpGs, wpI, wpT, startD, nb_fr, view_fr, it_fr, nb_int, nb_tup, nb_bl, nb_str, nb_lst, nb_scr, nb_non, nb_cell, nbs, g_name, g_tup, gsets, wipeD, noOw, itOk, view_int, view_tup, view_bl, view_str, view_lst, view_scr, view_non, at0, at1, at2, at3, ix0, ix1, ix2, tgN, List.map_cons, List.map_nil, List.append_nil, List.nil_append, List.cons_append, List.length_cons, List.length_nil, List.replicate_zero, List.replicate_succ, List.getElem?_cons_zero, List.getElem?_cons_succ, List.set_cons_zero, List.set_cons_succ, List.all_cons, List.all_nil, Bool.and_true, Bool.true_and, Nat.sub_self, Nat.add_sub_cancel_left, zeroNat, if_true, reduceCtorEq, true_and, and_true, ite_true, ite_false, Bool.false_eq_true, if_false, Nat.reduceAdd, Nat.reduceSub, Nat.reduceLT, Nat.zero_add, List.all, Bool.and_self, Int.reduceToNat, List.reduceReplicate, List.flatten_cons, List.flatten_nil, eq_self, permD, List.getD_cons_zero, List.getD_cons_succ, sIx21, List.take_succ_cons, List.take_zero, Nat.reduceLeDiff, and_self, decide_true, decide_false, Bool.not_true, Bool.not_false, dsc_nb]
  refine h19 m u1 r1 q W6 _ (m5 bu1 (by decide)) (m5 br1 (by decide)) (m5 bq (by decide)) p1 ?_
  try simp only [↓w_for, ↓w_lc, b_add, b_addT, b_addL, b_sub, b_mul, b_mulL, b_mulT, b_fdiv, b_mod, b_pow, c_lt, c_le, c_gt, c_ge, c_eq, c_ne, c_eqS, c_neS, c_eq_tup, c_ne_tup, c_eq_lst, c_ne_lst, c_eq_bl, c_ne_bl, c_inT, c_ninT, i_int, i_intB, i_abs, i_dm, i_len_tup, i_len_lst, i_len_scr, i_max, i_min, i_gcd, i_isqrt, i_tuple1_tup, i_tuple1_lst, i_list1_tup, i_list1_lst, i_all, i_any, i_sum, i_repr_tup, i_repr_lst, i_repr_bl, i_repr_int, y_bl, y_int, y_str, y_tup, y_lst, y_non, it_tup, it_lst, it_scr, t_bl, t_int, t_tup, t_lst, t_non, w_cons, w_nil, wpS, wpE, wpEs, wpG, wpGs, wpI, wpT, startD, nb_fr, view_fr, it_fr, nb_int, nb_tup, nb_bl, nb_str, nb_lst, nb_scr, nb_non, nb_cell, nbs, g_name, g_tup, gsets, wipeD, noOw, itOk, view_int, view_tup, view_bl, view_str, view_lst, view_scr, view_non, at0, at1, at2, at3, ix0, ix1, ix2, tgN, List.map_cons, List.map_nil, List.append_nil, List.nil_append, List.cons_append, List.length_cons, List.length_nil, List.replicate_zero, List.replicate_succ, List.getElem?_cons_zero, List.getElem?_cons_succ, List.set_cons_zero, List.set_cons_succ, List.all_cons, List.all_nil, Bool.and_true, Bool.true_and, Nat.sub_self, Nat.add_sub_cancel_left, zeroNat, if_true, reduceCtorEq, true_and, and_true, ite_true, ite_false, Bool.false_eq_true, if_false, Nat.reduceAdd, Nat.reduceSub, Nat.reduceLT, Nat.zero_add, List.all, Bool.and_self, Int.reduceToNat, List.reduceReplicate, List.flatten_cons, List.flatten_nil, eq_self, permD, List.getD_cons_zero, List.getD_cons_succ, sIx21, List.take_succ_cons, List.take_zero, Nat.reduceLeDiff, and_self, decide_true, decide_false, Bool.not_true, Bool.not_false, dsc_nb]
  refine rest_go ?_
  try simp only [↓w_for, ↓w_lc, b_add, b_addT, b_addL, b_sub, b_mul, b_mulL, b_mulT, b_fdiv, b_mod, b_pow, c_lt, c_le, c_gt, c_ge, c_eq, c_ne, c_eqS, c_neS, c_eq_tup, c_ne_tup, c_eq_lst, c_ne_lst, c_eq_bl, c_ne_bl, c_inT, c_ninT, i_int, i_intB, i_abs, i_dm, i_len_tup, i_len_lst, i_len_scr, i_max, i_min, i_gcd, i_isqrt, i_tuple1_tup, i_tuple1_lst, i_list1_tup, i_list1_lst, i_all, i_any, i_sum, i_repr_tup, i_repr_lst, i_repr_bl, i_repr_int, y_bl, y_int, y_str, y_tup, y_lst, y_non, it_tup, it_lst, it_scr, t_bl, t_int, t_tup, t_lst, t_non, w_cons, w_nil, wpS, wpE, wpEs, wpG, wpGs, wpI, wpT, startD, nb_fr, view_fr, it_fr, nb_int, nb_tup, nb_bl, nb_str, nb_lst, nb_scr, nb_non, nb_cell, nbs, g_name, g_tup, gsets, wipeD, noOw, itOk, view_int, view_tup, view_bl, view_str, view_lst, view_scr, view_non, at0, at1, at2, at3, ix0, ix1, ix2, tgN, List.map_cons, List.map_nil, List.append_nil, List.nil_append, List.cons_append, List.length_cons, List.length_nil, List.replicate_zero, List.replicate_succ, List.getElem?_cons_zero, List.getElem?_cons_succ, List.set_cons_zero, List.set_cons_succ, List.all_cons, List.all_nil, Bool.and_true, Bool.true_and, Nat.sub_self, Nat.add_sub_cancel_left, zeroNat, if_true, reduceCtorEq, true_and, and_true, ite_true, ite_false, Bool.false_eq_true, if_false, Nat.reduceAdd, Nat.reduceSub, Nat.reduceLT, Nat.zero_add, List.all, Bool.and_self, Int.reduceToNat, List.reduceReplicate, List.flatten_cons, List.flatten_nil, eq_self, permD, List.getD_cons_zero, List.getD_cons_succ, sIx21, List.take_succ_cons, List.take_zero, Nat.reduceLeDiff, and_self, decide_true, decide_false, Bool.not_true, Bool.not_false, dsc_nb]
  refine h39 (m + 2) u1 r1 u2 r2 W6 _ cu1 cr1 cu2 cr2 p1 p2 ?_
  try simp only [↓w_for, ↓w_lc, b_add, b_addT, b_addL, b_sub, b_mul, b_mulL, b_mulT, b_fdiv, b_mod, b_pow, c_lt, c_le, c_gt, c_ge, c_eq, c_ne, c_eqS, c_neS, c_eq_tup, c_ne_tup, c_eq_lst, c_ne_lst, c_eq_bl, c_ne_bl, c_inT, c_ninT, i_int, i_intB, i_abs, i_dm, i_len_tup, i_len_lst, i_len_scr, i_max, i_min, i_gcd, i_isqrt, i_tuple1_tup, i_tuple1_lst, i_list1_tup, i_list1_lst, i_all, i_any, i_sum, i_repr_tup, i_repr_lst, i_repr_bl, i_repr_int, y_bl, y_int, y_str, y_tup, y_lst, y_non, it_tup, it_lst, it_scr, t_bl, t_int, t_tup, t_lst, t_non, w_cons, w_nil, wpS, wpE, wpEs, wpG, wpGs, wpI, wpT, startD, nb_fr, view_fr, it_fr, nb_int, nb_tup, nb_bl, nb_str, nb_lst, nb_scr, nb_non, nb_cell, nbs, g_name, g_tup, gsets, wipeD, noOw, itOk, view_int, view_tup, view_bl, view_str, view_lst, view_scr, view_non, at0, at1, at2, at3, ix0, ix1, ix2, tgN, List.map_cons, List.map_nil, List.append_nil, List.nil_append, List.cons_append, List.length_cons, List.length_nil, List.replicate_zero, List.replicate_succ, List.getElem?_cons_zero, List.getElem?_cons_succ, List.set_cons_zero, List.set_cons_succ, List.all_cons, List.all_nil, Bool.and_true, Bool.true_and, Nat.sub_self, Nat.add_sub_cancel_left, zeroNat, if_true, reduceCtorEq, true_and, and_true, ite_true, ite_false, Bool.false_eq_true, if_false, Nat.reduceAdd, Nat.reduceSub, Nat.reduceLT, Nat.zero_add, List.all, Bool.and_self, Int.reduceToNat, List.reduceReplicate, List.flatten_cons, List.flatten_nil, eq_self, permD, List.getD_cons_zero, List.getD_cons_succ, sIx21, List.take_succ_cons, List.take_zero, Nat.reduceLeDiff, and_self, decide_true, decide_false, Bool.not_true, Bool.not_false, dsc_nb]
  refine h40 (m + 2) u1 r1 q W6 _ cu1 cr1 cq p1 ?_
  try simp only [↓w_for, ↓w_lc, b_add, b_addT, b_addL, b_sub, b_mul, b_mulL, b_mulT, b_fdiv, b_mod, b_pow, c_lt, c_le, c_gt, c_ge, c_eq, c_ne, c_eqS, c_neS, c_eq_tup, c_ne_tup, c_eq_lst, c_ne_lst, c_eq_bl, c_ne_bl, c_inT, c_ninT, i_int, i_intB, i_abs, i_dm, i_len_tup, i_len_lst, i_len_scr, i_max, i_min, i_gcd, i_isqrt, i_tuple1_tup, i_tuple1_lst, i_list1_tup, i_list1_lst, i_all, i_any, i_sum, i_repr_tup, i_repr_lst, i_repr_bl, i_repr_int, y_bl, y_int, y_str, y_tup, y_lst, y_non, it_tup, it_lst, it_scr, t_bl, t_int, t_tup, t_lst, t_non, w_cons, w_nil, wpS, wpE, wpEs, wpG, wpGs, wpI, wpT, startD, nb_fr, view_fr, it_fr, nb_int, nb_tup, nb_bl, nb_str, nb_lst, nb_scr, nb_non, nb_cell, nbs, g_name, g_tup, gsets, wipeD, noOw, itOk, view_int, view_tup, view_bl, view_str, view_lst, view_scr, view_non, at0, at1, at2, at3, ix0, ix1, ix2, tgN, List.map_cons, List.map_nil, List.append_nil, List.nil_append, List.cons_append, List.length_cons, List.length_nil, List.replicate_zero, List.replicate_succ, List.getElem?_cons_zero, List.getElem?_cons_succ, List.set_cons_zero, List.set_cons_succ, List.all_cons, List.all_nil, Bool.and_true, Bool.true_and, Nat.sub_self, Nat.add_sub_cancel_left, zeroNat, if_true, reduceCtorEq, true_and, and_true, ite_true, ite_false, Bool.false_eq_true, if_false, Nat.reduceAdd, Nat.reduceSub, Nat.reduceLT, Nat.zero_add, List.all, Bool.and_self, Int.reduceToNat, List.reduceReplicate, List.flatten_cons, List.flatten_nil, eq_self, permD, List.getD_cons_zero, List.getD_cons_succ, sIx21, List.take_succ_cons, List.take_zero, Nat.reduceLeDiff, and_self, decide_true, decide_false, Bool.not_true, Bool.not_false, dsc_nb]
  refine ⟨by decide, rest_go ?_⟩
  have rp1 := dsc2_ok bus brs bum brm (by decide)
  try simp only [↓w_for, ↓w_lc, b_add, b_addT, b_addL, b_sub, b_mul, b_mulL, b_mulT, b_fdiv, b_mod, b_pow, c_lt, c_le, c_gt, c_ge, c_eq, c_ne, c_eqS, c_neS, c_eq_tup, c_ne_tup, c_eq_lst, c_ne_lst, c_eq_bl, c_ne_bl, c_inT, c_ninT, i_int, i_intB, i_abs, i_dm, i_len_tup, i_len_lst, i_len_scr, i_max, i_min, i_gcd, i_isqrt, i_tuple1_tup, i_tuple1_lst, i_list1_tup, i_list1_lst, i_all, i_any, i_sum, i_repr_tup, i_repr_lst, i_repr_bl, i_repr_int, y_bl, y_int, y_str, y_tup, y_lst, y_non, it_tup, it_lst, it_scr, t_bl, t_int, t_tup, t_lst, t_non, w_cons, w_nil, wpS, wpE, wpEs, wpG, wpGs, wpI, wpT, startD, nb_fr, view_fr, it_fr, nb_int, nb_tup, nb_bl, nb_str, nb_lst, nb_scr, nb_non, nb_cell, nbs, g_name, g_tup, gsets, wipeD, noOw, itOk, view_int, view_tup, view_bl, view_str, view_lst, view_scr, view_non, at0, at1, at2, at3, ix0, ix1, ix2, tgN, List.map_cons, List.map_nil, List.append_nil, List.nil_append, List.cons_append, List.length_cons, List.length_nil, List.replicate_zero, List.replicate_succ, List.getElem?_cons_zero, List.getElem?_cons_succ, List.set_cons_zero, List.set_cons_succ, List.all_cons, List.all_nil, Bool.and_true, Bool.true_and, Nat.sub_self, Nat.add_sub_cancel_left, zeroNat, if_true, reduceCtorEq, true_and, and_true, ite_true, ite_false, Bool.false_eq_true, if_false, Nat.reduceAdd, Nat.reduceSub, Nat.reduceLT, Nat.zero_add, List.all, Bool.and_self, Int.reduceToNat, List.reduceReplicate, List.flatten_cons, List.flatten_nil, eq_self, permD, List.getD_cons_zero, List.getD_cons_succ, sIx21, List.take_succ_cons, List.take_zero, Nat.reduceLeDiff, and_self, decide_true, decide_false, Bool.not_true, Bool.not_false, dsc_nb]
  refine ⟨by decide, rp1, rp1, rest_go ?_⟩
  try simp only [↓w_for, ↓w_lc, b_add, b_addT, b_addL, b_sub, b_mul, b_mulL, b_mulT, b_fdiv, b_mod, b_pow, c_lt, c_le, c_gt, c_ge, c_eq, c_ne, c_eqS, c_neS, c_eq_tup, c_ne_tup, c_eq_lst, c_ne_lst, c_eq_bl, c_ne_bl, c_inT, c_ninT, i_int, i_intB, i_abs, i_dm, i_len_tup, i_len_lst, i_len_scr, i_max, i_min, i_gcd, i_isqrt, i_tuple1_tup, i_tuple1_lst, i_list1_tup, i_list1_lst, i_all, i_any, i_sum, i_repr_tup, i_repr_lst, i_repr_bl, i_repr_int, y_bl, y_int, y_str, y_tup, y_lst, y_non, it_tup, it_lst, it_scr, t_bl, t_int, t_tup, t_lst, t_non, w_cons, w_nil, wpS, wpE, wpEs, wpG, wpGs, wpI, wpT, startD, nb_fr, view_fr, it_fr, nb_int, nb_tup, nb_bl, nb_str, nb_lst, nb_scr, nb_non, nb_cell, nbs, g_name, g_tup, gsets, wipeD, noOw, itOk, view_int, view_tup, view_bl, view_str, view_lst, view_scr, view_non, at0, at1, at2, at3, ix0, ix1, ix2, tgN, List.map_cons, List.map_nil, List.append_nil, List.nil_append, List.cons_append, List.length_cons, List.length_nil, List.replicate_zero, List.replicate_succ, List.getElem?_cons_zero, List.getElem?_cons_succ, List.set_cons_zero, List.set_cons_succ, List.all_cons, List.all_nil, Bool.and_true, Bool.true_and, Nat.sub_self, Nat.add_sub_cancel_left, zeroNat, if_true, reduceCtorEq, true_and, and_true, ite_true, ite_false, Bool.false_eq_true, if_false, Nat.reduceAdd, Nat.reduceSub, Nat.reduceLT, Nat.zero_add, List.all, Bool.and_self, Int.reduceToNat, List.reduceReplicate, List.flatten_cons, List.flatten_nil, eq_self, permD, List.getD_cons_zero, List.getD_cons_succ, sIx21, List.take_succ_cons, List.take_zero, Nat.reduceLeDiff, and_self, decide_true, decide_false, Bool.not_true, Bool.not_false, dsc_nb]
  refine h18 m u2 r2 u1 r1 W6 _ (m5 bu2 (by decide)) (m5 br2 (by decide)) (m5 bu1 (by decide)) (m5 br1 (by decide)) p2 p1 ?_
  try simp only [↓w_for, ↓w_lc, b_add, b_addT, b_addL, b_sub, b_mul, b_mulL, b_mulT, b_fdiv, b_mod, b_pow, c_lt, c_le, c_gt, c_ge, c_eq, c_ne, c_eqS, c_neS, c_eq_tup, c_ne_tup, c_eq_lst, c_ne_lst, c_eq_bl, c_ne_bl, c_inT, c_ninT, i_int, i_intB, i_abs, i_dm, i_len_tup, i_len_lst, i_len_scr, i_max, i_min, i_gcd, i_isqrt, i_tuple1_tup, i_tuple1_lst, i_list1_tup, i_list1_lst, i_all, i_any, i_sum, i_repr_tup, i_repr_lst, i_repr_bl, i_repr_int, y_bl, y_int, y_str, y_tup, y_lst, y_non, it_tup, it_lst, it_scr, t_bl, t_int, t_tup, t_lst, t_non, w_cons, w_nil, wpS, wpE, wpEs, wpG, wpGs, wpI, wpT, startD, nb_fr, view_fr, it_fr, nb_int, nb_tup, nb_bl, nb_str, nb_lst, nb_scr, nb_non, nb_cell, nbs, g_name, g_tup, gsets, wipeD, noOw, itOk, view_int, view_tup, view_bl, view_str, view_lst, view_scr, view_non, at0, at1, at2, at3, ix0, ix1, ix2, tgN, List.map_cons, List.map_nil, List.append_nil, List.nil_append, List.cons_append, List.length_cons, List.length_nil, List.replicate_zero, List.replicate_succ, List.getElem?_cons_zero, List.getElem?_cons_succ, List.set_cons_zero, List.set_cons_succ, List.all_cons, List.all_nil, Bool.and_true, Bool.true_and, Nat.sub_self, Nat.add_sub_cancel_left, zeroNat, if_true, reduceCtorEq, true_and, and_true, ite_true, ite_false, Bool.false_eq_true, if_false, Nat.reduceAdd, Nat.reduceSub, Nat.reduceLT, Nat.zero_add, List.all, Bool.and_self, Int.reduceToNat, List.reduceReplicate, List.flatten_cons, List.flatten_nil, eq_self, permD, List.getD_cons_zero, List.getD_cons_succ, sIx21, List.take_succ_cons, List.take_zero, Nat.reduceLeDiff, and_self, decide_true, decide_false, Bool.not_true, Bool.not_false, dsc_nb]
  refine h19 m u1 r1 q W6 _ (m5 bu1 (by decide)) (m5 br1 (by decide)) (m5 bq (by decide)) p1 ?_
  try simp only [↓w_for, ↓w_lc, b_add, b_addT, b_addL, b_sub, b_mul, b_mulL, b_mulT, b_fdiv, b_mod, b_pow, c_lt, c_le, c_gt, c_ge, c_eq, c_ne, c_eqS, c_neS, c_eq_tup, c_ne_tup, c_eq_lst, c_ne_lst, c_eq_bl, c_ne_bl, c_inT, c_ninT, i_int, i_intB, i_abs, i_dm, i_len_tup, i_len_lst, i_len_scr, i_max, i_min, i_gcd, i_isqrt, i_tuple1_tup, i_tuple1_lst, i_list1_tup, i_list1_lst, i_all, i_any, i_sum, i_repr_tup, i_repr_lst, i_repr_bl, i_repr_int, y_bl, y_int, y_str, y_tup, y_lst, y_non, it_tup, it_lst, it_scr, t_bl, t_int, t_tup, t_lst, t_non, w_cons, w_nil, wpS, wpE, wpEs, wpG, wpGs, wpI, wpT, startD, nb_fr, view_fr, it_fr, nb_int, nb_tup, nb_bl, nb_str, nb_lst, nb_scr, nb_non, nb_cell, nbs, g_name, g_tup, gsets, wipeD, noOw, itOk, view_int, view_tup, view_bl, view_str, view_lst, view_scr, view_non, at0, at1, at2, at3, ix0, ix1, ix2, tgN, List.map_cons, List.map_nil, List.append_nil, List.nil_append, List.cons_append, List.length_cons, List.length_nil, List.replicate_zero, List.replicate_succ, List.getElem?_cons_zero, List.getElem?_cons_succ, List.set_cons_zero, List.set_cons_succ, List.all_cons, List.all_nil, Bool.and_true, Bool.true_and, Nat.sub_self, Nat.add_sub_cancel_left, zeroNat, if_true, reduceCtorEq, true_and, and_true, ite_true, ite_false, Bool.false_eq_true, if_false, Nat.reduceAdd, Nat.reduceSub, Nat.reduceLT, Nat.zero_add, List.all, Bool.and_self, Int.reduceToNat, List.reduceReplicate, List.flatten_cons, List.flatten_nil, eq_self, permD, List.getD_cons_zero, List.getD_cons_succ, sIx21, List.take_succ_cons, List.take_zero, Nat.reduceLeDiff, and_self, decide_true, decide_false, Bool.not_true, Bool.not_false, dsc_nb]
  rw [Rat.add_comm u2 u1, Rat.add_comm r2 r1]
  refine ⟨by decide, rp1, rp1, ?_⟩
  try simp only [↓w_for, ↓w_lc, b_add, b_addT, b_addL, b_sub, b_mul, b_mulL, b_mulT, b_fdiv, b_mod, b_pow, c_lt, c_le, c_gt, c_ge, c_eq, c_ne, c_eqS, c_neS, c_eq_tup, c_ne_tup, c_eq_lst, c_ne_lst, c_eq_bl, c_ne_bl, c_inT, c_ninT, i_int, i_intB, i_abs, i_dm, i_len_tup, i_len_lst, i_len_scr, i_max, i_min, i_gcd, i_isqrt, i_tuple1_tup, i_tuple1_lst, i_list1_tup, i_list1_lst, i_all, i_any, i_sum, i_repr_tup, i_repr_lst, i_repr_bl, i_repr_int, y_bl, y_int, y_str, y_tup, y_lst, y_non, it_tup, it_lst, it_scr, t_bl, t_int, t_tup, t_lst, t_non, w_cons, w_nil, wpS, wpE, wpEs, wpG, wpGs, wpI, wpT, startD, nb_fr, view_fr, it_fr, nb_int, nb_tup, nb_bl, nb_str, nb_lst, nb_scr, nb_non, nb_cell, nbs, g_name, g_tup, gsets, wipeD, noOw, itOk, view_int, view_tup, view_bl, view_str, view_lst, view_scr, view_non, at0, at1, at2, at3, ix0, ix1, ix2, tgN, List.map_cons, List.map_nil, List.append_nil, List.nil_append, List.cons_append, List.length_cons, List.length_nil, List.replicate_zero, List.replicate_succ, List.getElem?_cons_zero, List.getElem?_cons_succ, List.set_cons_zero, List.set_cons_succ, List.all_cons, List.all_nil, Bool.and_true, Bool.true_and, Nat.sub_self, Nat.add_sub_cancel_left, zeroNat, if_true, reduceCtorEq, true_and, and_true, ite_true, ite_false, Bool.false_eq_true, if_false, Nat.reduceAdd, Nat.reduceSub, Nat.reduceLT, Nat.zero_add, List.all, Bool.and_self, Int.reduceToNat, List.reduceReplicate, List.flatten_cons, List.flatten_nil, eq_self, permD, List.getD_cons_zero, List.getD_cons_succ, sIx21, List.take_succ_cons, List.take_zero, Nat.reduceLeDiff, and_self, decide_true, decide_false, Bool.not_true, Bool.not_false]
  refine rest_go ?_
  try simp only [↓w_for, ↓w_lc, b_add, b_addT, b_addL, b_sub, b_mul, b_mulL, b_mulT, b_fdiv, b_mod, b_pow, c_lt, c_le, c_gt, c_ge, c_eq, c_ne, c_eqS, c_neS, c_eq_tup, c_ne_tup, c_eq_lst, c_ne_lst, c_eq_bl, c_ne_bl, c_inT, c_ninT, i_int, i_intB, i_abs, i_dm, i_len_tup, i_len_lst, i_len_scr, i_max, i_min, i_gcd, i_isqrt, i_tuple1_tup, i_tuple1_lst, i_list1_tup, i_list1_lst, i_all, i_any, i_sum, i_repr_tup, i_repr_lst, i_repr_bl, i_repr_int, y_bl, y_int, y_str, y_tup, y_lst, y_non, it_tup, it_lst, it_scr, t_bl, t_int, t_tup, t_lst, t_non, w_cons, w_nil, wpS, wpE, wpEs, wpG, wpGs, wpI, wpT, startD, nb_fr, view_fr, it_fr, nb_int, nb_tup, nb_bl, nb_str, nb_lst, nb_scr, nb_non, nb_cell, nbs, g_name, g_tup, gsets, wipeD, noOw, itOk, view_int, view_tup, view_bl, view_str, view_lst, view_scr, view_non, at0, at1, at2, at3, ix0, ix1, ix2, tgN, List.map_cons, List.map_nil, List.append_nil, List.nil_append, List.cons_append, List.length_cons, List.length_nil, List.replicate_zero, List.replicate_succ, List.getElem?_cons_zero, List.getElem?_cons_succ, List.set_cons_zero, List.set_cons_succ, List.all_cons, List.all_nil, Bool.and_true, Bool.true_and, Nat.sub_self, Nat.add_sub_cancel_left, zeroNat, if_true, reduceCtorEq, true_and, and_true, ite_true, ite_false, Bool.false_eq_true, if_false, Nat.reduceAdd, Nat.reduceSub, Nat.reduceLT, Nat.zero_add, List.all, Bool.and_self, Int.reduceToNat, List.reduceReplicate, List.flatten_cons, List.flatten_nil, eq_self, permD, List.getD_cons_zero, List.getD_cons_succ, sIx21, List.take_succ_cons, List.take_zero, Nat.reduceLeDiff, and_self, decide_true, decide_false, Bool.not_true, Bool.not_false, dsc_nb]
  refine h33 (m + 3) k c (u1 + u2) (r1 + r2) W6 _ bus brs hw6 (fun ut rt W7 but brt pt hw7 => ?_)
  try simp only [↓w_for, ↓w_lc, b_add, b_addT, b_addL, b_sub, b_mul, b_mulL, b_mulT, b_fdiv, b_mod, b_pow, c_lt, c_le, c_gt, c_ge, c_eq, c_ne, c_eqS, c_neS, c_eq_tup, c_ne_tup, c_eq_lst, c_ne_lst, c_eq_bl, c_ne_bl, c_inT, c_ninT, i_int, i_intB, i_abs, i_dm, i_len_tup, i_len_lst, i_len_scr, i_max, i_min, i_gcd, i_isqrt, i_tuple1_tup, i_tuple1_lst, i_list1_tup, i_list1_lst, i_all, i_any, i_sum, i_repr_tup, i_repr_lst, i_repr_bl, i_repr_int, y_bl, y_int, y_str, y_tup, y_lst, y_non, it_tup, it_lst, it_scr, t_bl, t_int, t_tup, t_lst, t_non, w_cons, w_nil, wpS, wpE, wpEs, wpG, wpGs, wpI, wpT, startD, nb_fr, view_fr, it_fr, nb_int, nb_tup, nb_bl, nb_str, nb_lst, nb_scr, nb_non, nb_cell, nbs, g_name, g_tup, gsets, wipeD, noOw, itOk, view_int, view_tup, view_bl, view_str, view_lst, view_scr, view_non, at0, at1, at2, at3, ix0, ix1, ix2, tgN, List.map_cons, List.map_nil, List.append_nil, List.nil_append, List.cons_append, List.length_cons, List.length_nil, List.replicate_zero, List.replicate_succ, List.getElem?_cons_zero, List.getElem?_cons_succ, List.set_cons_zero, List.set_cons_succ, List.all_cons, List.all_nil, Bool.and_true, Bool.true_and, Nat.sub_self, Nat.add_sub_cancel_left, zeroNat, if_true, reduceCtorEq, true_and, and_true, ite_true, ite_false, Bool.false_eq_true, if_false, Nat.reduceAdd, Nat.reduceSub, Nat.reduceLT, Nat.zero_add, List.all, Bool.and_self, Int.reduceToNat, List.reduceReplicate, List.flatten_cons, List.flatten_nil, eq_self, permD, List.getD_cons_zero, List.getD_cons_succ, sIx21, List.take_succ_cons, List.take_zero, Nat.reduceLeDiff, and_self, decide_true, decide_false, Bool.not_true, Bool.not_false, dsc_nb]
  refine rest_go ?_
  try simp only [↓w_for, ↓w_lc, b_add, b_addT, b_addL, b_sub, b_mul, b_mulL, b_mulT, b_fdiv, b_mod, b_pow, c_lt, c_le, c_gt, c_ge, c_eq, c_ne, c_eqS, c_neS, c_eq_tup, c_ne_tup, c_eq_lst, c_ne_lst, c_eq_bl, c_ne_bl, c_inT, c_ninT, i_int, i_intB, i_abs, i_dm, i_len_tup, i_len_lst, i_len_scr, i_max, i_min, i_gcd, i_isqrt, i_tuple1_tup, i_tuple1_lst, i_list1_tup, i_list1_lst, i_all, i_any, i_sum, i_repr_tup, i_repr_lst, i_repr_bl, i_repr_int, y_bl, y_int, y_str, y_tup, y_lst, y_non, it_tup, it_lst, it_scr, t_bl, t_int, t_tup, t_lst, t_non, w_cons, w_nil, wpS, wpE, wpEs, wpG, wpGs, wpI, wpT, startD, nb_fr, view_fr, it_fr, nb_int, nb_tup, nb_bl, nb_str, nb_lst, nb_scr, nb_non, nb_cell, nbs, g_name, g_tup, gsets, wipeD, noOw, itOk, view_int, view_tup, view_bl, view_str, view_lst, view_scr, view_non, at0, at1, at2, at3, ix0, ix1, ix2, tgN, List.map_cons, List.map_nil, List.append_nil, List.nil_append, List.cons_append, List.length_cons, List.length_nil, List.replicate_zero, List.replicate_succ, List.getElem?_cons_zero, List.getElem?_cons_succ, List.set_cons_zero, List.set_cons_succ, List.all_cons, List.all_nil, Bool.and_true, Bool.true_and, Nat.sub_self, Nat.add_sub_cancel_left, zeroNat, if_true, reduceCtorEq, true_and, and_true, ite_true, ite_false, Bool.false_eq_true, if_false, Nat.reduceAdd, Nat.reduceSub, Nat.reduceLT, Nat.zero_add, List.all, Bool.and_self, Int.reduceToNat, List.reduceReplicate, List.flatten_cons, List.flatten_nil, eq_self, permD, List.getD_cons_zero, List.getD_cons_succ, sIx21, List.take_succ_cons, List.take_zero, Nat.reduceLeDiff, and_self, decide_true, decide_false, Bool.not_true, Bool.not_false, dsc_nb]
  refine ⟨by decide, rest_go ?_⟩
  try simp only [↓w_for, ↓w_lc, b_add, b_addT, b_addL, b_sub, b_mul, b_mulL, b_mulT, b_fdiv, b_mod, b_pow, c_lt, c_le, c_gt, c_ge, c_eq, c_ne, c_eqS, c_neS, c_eq_tup, c_ne_tup, c_eq_lst, c_ne_lst, c_eq_bl, c_ne_bl, c_inT, c_ninT, i_int, i_intB, i_abs, i_dm, i_len_tup, i_len_lst, i_len_scr, i_max, i_min, i_gcd, i_isqrt, i_tuple1_tup, i_tuple1_lst, i_list1_tup, i_list1_lst, i_all, i_any, i_sum, i_repr_tup, i_repr_lst, i_repr_bl, i_repr_int, y_bl, y_int, y_str, y_tup, y_lst, y_non, it_tup, it_lst, it_scr, t_bl, t_int, t_tup, t_lst, t_non, w_cons, w_nil, wpS, wpE, wpEs, wpG, wpGs, wpI, wpT, startD, nb_fr, view_fr, it_fr, nb_int, nb_tup, nb_bl, nb_str, nb_lst, nb_scr, nb_non, nb_cell, nbs, g_name, g_tup, gsets, wipeD, noOw, itOk, view_int, view_tup, view_bl, view_str, view_lst, view_scr, view_non, at0, at1, at2, at3, ix0, ix1, ix2, tgN, List.map_cons, List.map_nil, List.append_nil, List.nil_append, List.cons_append, List.length_cons, List.length_nil, List.replicate_zero, List.replicate_succ, List.getElem?_cons_zero, List.getElem?_cons_succ, List.set_cons_zero, List.set_cons_succ, List.all_cons, List.all_nil, Bool.and_true, Bool.true_and, Nat.sub_self, Nat.add_sub_cancel_left, zeroNat, if_true, reduceCtorEq, true_and, and_true, ite_true, ite_false, Bool.false_eq_true, if_false, Nat.reduceAdd, Nat.reduceSub, Nat.reduceLT, Nat.zero_add, List.all, Bool.and_self, Int.reduceToNat, List.reduceReplicate, List.flatten_cons, List.flatten_nil, eq_self, permD, List.getD_cons_zero, List.getD_cons_succ, sIx21, List.take_succ_cons, List.take_zero, Nat.reduceLeDiff, and_self, decide_true, decide_false, Bool.not_true, Bool.not_false]
  refine h41 m [(u1, r1), (u2, r2), (uf, rf), (u1 + u2, r1 + r2), (q * u1, absR q * r1), (ut, rt)] W7 _ ?_ ?_
  · intro p hp
    simp only [List.mem_cons, List.not_mem_nil, or_false] at hp
    rcases hp with rfl | rfl | rfl | rfl | rfl | rfl <;> assumption
  try simp only [↓w_for, ↓w_lc, b_add, b_addT, b_addL, b_sub, b_mul, b_mulL, b_mulT, b_fdiv, b_mod, b_pow, c_lt, c_le, c_gt, c_ge, c_eq, c_ne, c_eqS, c_neS, c_eq_tup, c_ne_tup, c_eq_lst, c_ne_lst, c_eq_bl, c_ne_bl, c_inT, c_ninT, i_int, i_intB, i_abs, i_dm, i_len_tup, i_len_lst, i_len_scr, i_max, i_min, i_gcd, i_isqrt, i_tuple1_tup, i_tuple1_lst, i_list1_tup, i_list1_lst, i_all, i_any, i_sum, i_repr_tup, i_repr_lst, i_repr_bl, i_repr_int, y_bl, y_int, y_str, y_tup, y_lst, y_non, it_tup, it_lst, it_scr, t_bl, t_int, t_tup, t_lst, t_non, w_cons, w_nil, wpS, wpE, wpEs, wpG, wpGs, wpI, wpT, startD, nb_fr, view_fr, it_fr, nb_int, nb_tup, nb_bl, nb_str, nb_lst, nb_scr, nb_non, nb_cell, nbs, g_name, g_tup, gsets, wipeD, noOw, itOk, view_int, view_tup, view_bl, view_str, view_lst, view_scr, view_non, at0, at1, at2, at3, ix0, ix1, ix2, tgN, List.map_cons, List.map_nil, List.append_nil, List.nil_append, List.cons_append, List.length_cons, List.length_nil, List.replicate_zero, List.replicate_succ, List.getElem?_cons_zero, List.getElem?_cons_succ, List.set_cons_zero, List.set_cons_succ, List.all_cons, List.all_nil, Bool.and_true, Bool.true_and, Nat.sub_self, Nat.add_sub_cancel_left, zeroNat, if_true, reduceCtorEq, true_and, and_true, ite_true, ite_false, Bool.false_eq_true, if_false, Nat.reduceAdd, Nat.reduceSub, Nat.reduceLT, Nat.zero_add, List.all, Bool.and_self, Int.reduceToNat, List.reduceReplicate, List.flatten_cons, List.flatten_nil, eq_self, permD, List.getD_cons_zero, List.getD_cons_succ, sIx21, List.take_succ_cons, List.take_zero, Nat.reduceLeDiff, and_self, decide_true, decide_false, Bool.not_true, Bool.not_false]
  refine rest_go ?_
  try simp only [↓w_for, ↓w_lc, b_add, b_addT, b_addL, b_sub, b_mul, b_mulL, b_mulT, b_fdiv, b_mod, b_pow, c_lt, c_le, c_gt, c_ge, c_eq, c_ne, c_eqS, c_neS, c_eq_tup, c_ne_tup, c_eq_lst, c_ne_lst, c_eq_bl, c_ne_bl, c_inT, c_ninT, i_int, i_intB, i_abs, i_dm, i_len_tup, i_len_lst, i_len_scr, i_max, i_min, i_gcd, i_isqrt, i_tuple1_tup, i_tuple1_lst, i_list1_tup, i_list1_lst, i_all, i_any, i_sum, i_repr_tup, i_repr_lst, i_repr_bl, i_repr_int, y_bl, y_int, y_str, y_tup, y_lst, y_non, it_tup, it_lst, it_scr, t_bl, t_int, t_tup, t_lst, t_non, w_cons, w_nil, wpS, wpE, wpEs, wpG, wpGs, wpI, wpT, startD, nb_fr, view_fr, it_fr, nb_int, nb_tup, nb_bl, nb_str, nb_lst, nb_scr, nb_non, nb_cell, nbs, g_name, g_tup, gsets, wipeD, noOw, itOk, view_int, view_tup, view_bl, view_str, view_lst, view_scr, view_non, at0, at1, at2, at3, ix0, ix1, ix2, tgN, List.map_cons, List.map_nil, List.append_nil, List.nil_append, List.cons_append, List.length_cons, List.length_nil, List.replicate_zero, List.replicate_succ, List.getElem?_cons_zero, List.getElem?_cons_succ, List.set_cons_zero, List.set_cons_succ, List.all_cons, List.all_nil, Bool.and_true, Bool.true_and, Nat.sub_self, Nat.add_sub_cancel_left, zeroNat, if_true, reduceCtorEq, true_and, and_true, ite_true, ite_false, Bool.false_eq_true, if_false, Nat.reduceAdd, Nat.reduceSub, Nat.reduceLT, Nat.zero_add, List.all, Bool.and_self, Int.reduceToNat, List.reduceReplicate, List.flatten_cons, List.flatten_nil, eq_self, permD, List.getD_cons_zero, List.getD_cons_succ, sIx21, List.take_succ_cons, List.take_zero, Nat.reduceLeDiff, and_self, decide_true, decide_false, Bool.not_true, Bool.not_false, dsc_nb, dsc_view, dsc_it]
  refine h25 (m + 4) x1 x2 200 200 W7 _ bx1 bx2 (by decide) ?_
  try simp only [↓w_for, ↓w_lc, b_add, b_addT, b_addL, b_sub, b_mul, b_mulL, b_mulT, b_fdiv, b_mod, b_pow, c_lt, c_le, c_gt, c_ge, c_eq, c_ne, c_eqS, c_neS, c_eq_tup, c_ne_tup, c_eq_lst, c_ne_lst, c_eq_bl, c_ne_bl, c_inT, c_ninT, i_int, i_intB, i_abs, i_dm, i_len_tup, i_len_lst, i_len_scr, i_max, i_min, i_gcd, i_isqrt, i_tuple1_tup, i_tuple1_lst, i_list1_tup, i_list1_lst, i_all, i_any, i_sum, i_repr_tup, i_repr_lst, i_repr_bl, i_repr_int, y_bl, y_int, y_str, y_tup, y_lst, y_non, it_tup, it_lst, it_scr, t_bl, t_int, t_tup, t_lst, t_non, w_cons, w_nil, wpS, wpE, wpEs, wpG, wpGs, wpI, wpT, startD, nb_fr, view_fr, it_fr, nb_int, nb_tup, nb_bl, nb_str, nb_lst, nb_scr, nb_non, nb_cell, nbs, g_name, g_tup, gsets, wipeD, noOw, itOk, view_int, view_tup, view_bl, view_str, view_lst, view_scr, view_non, at0, at1, at2, at3, ix0, ix1, ix2, tgN, List.map_cons, List.map_nil, List.append_nil, List.nil_append, List.cons_append, List.length_cons, List.length_nil, List.replicate_zero, List.replicate_succ, List.getElem?_cons_zero, List.getElem?_cons_succ, List.set_cons_zero, List.set_cons_succ, List.all_cons, List.all_nil, Bool.and_true, Bool.true_and, Nat.sub_self, Nat.add_sub_cancel_left, zeroNat, if_true, reduceCtorEq, true_and, and_true, ite_true, ite_false, Bool.false_eq_true, if_false, Nat.reduceAdd, Nat.reduceSub, Nat.reduceLT, Nat.zero_add, List.all, Bool.and_self, Int.reduceToNat, List.reduceReplicate, List.flatten_cons, List.flatten_nil, eq_self, permD, List.getD_cons_zero, List.getD_cons_succ, sIx21, List.take_succ_cons, List.take_zero, Nat.reduceLeDiff, and_self, decide_true, decide_false, Bool.not_true, Bool.not_false, dsc_nb, dsc_view, dsc_it]
  refine h25 (m + 4) y1 y2 200 200 W7 _ by1 by2 (by decide) ?_
  try simp only [↓w_for, ↓w_lc, b_add, b_addT, b_addL, b_sub, b_mul, b_mulL, b_mulT, b_fdiv, b_mod, b_pow, c_lt, c_le, c_gt, c_ge, c_eq, c_ne, c_eqS, c_neS, c_eq_tup, c_ne_tup, c_eq_lst, c_ne_lst, c_eq_bl, c_ne_bl, c_inT, c_ninT, i_int, i_intB, i_abs, i_dm, i_len_tup, i_len_lst, i_len_scr, i_max, i_min, i_gcd, i_isqrt, i_tuple1_tup, i_tuple1_lst, i_list1_tup, i_list1_lst, i_all, i_any, i_sum, i_repr_tup, i_repr_lst, i_repr_bl, i_repr_int, y_bl, y_int, y_str, y_tup, y_lst, y_non, it_tup, it_lst, it_scr, t_bl, t_int, t_tup, t_lst, t_non, w_cons, w_nil, wpS, wpE, wpEs, wpG, wpGs, wpI, wpT, startD, nb_fr, view_fr, it_fr, nb_int, nb_tup, nb_bl, nb_str, nb_lst, nb_scr, nb_non, nb_cell, nbs, g_name, g_tup, gsets, wipeD, noOw, itOk, view_int, view_tup, view_bl, view_str, view_lst, view_scr, view_non, at0, at1, at2, at3, ix0, ix1, ix2, tgN, List.map_cons, List.map_nil, List.append_nil, List.nil_append, List.cons_append, List.length_cons, List.length_nil, List.replicate_zero, List.replicate_succ, List.getElem?_cons_zero, List.getElem?_cons_succ, List.set_cons_zero, List.set_cons_succ, List.all_cons, List.all_nil, Bool.and_true, Bool.true_and, Nat.sub_self, Nat.add_sub_cancel_left, zeroNat, if_true, reduceCtorEq, true_and, and_true, ite_true, ite_false, Bool.false_eq_true, if_false, Nat.reduceAdd, Nat.reduceSub, Nat.reduceLT, Nat.zero_add, List.all, Bool.and_self, Int.reduceToNat, List.reduceReplicate, List.flatten_cons, List.flatten_nil, eq_self, permD, List.getD_cons_zero, List.getD_cons_succ, sIx21, List.take_succ_cons, List.take_zero, Nat.reduceLeDiff, and_self, decide_true, decide_false, Bool.not_true, Bool.not_false]
  refine ⟨by decide, rest_go ?_⟩
  try simp only [↓w_for, ↓w_lc, b_add, b_addT, b_addL, b_sub, b_mul, b_mulL, b_mulT, b_fdiv, b_mod, b_pow, c_lt, c_le, c_gt, c_ge, c_eq, c_ne, c_eqS, c_neS, c_eq_tup, c_ne_tup, c_eq_lst, c_ne_lst, c_eq_bl, c_ne_bl, c_inT, c_ninT, i_int, i_intB, i_abs, i_dm, i_len_tup, i_len_lst, i_len_scr, i_max, i_min, i_gcd, i_isqrt, i_tuple1_tup, i_tuple1_lst, i_list1_tup, i_list1_lst, i_all, i_any, i_sum, i_repr_tup, i_repr_lst, i_repr_bl, i_repr_int, y_bl, y_int, y_str, y_tup, y_lst, y_non, it_tup, it_lst, it_scr, t_bl, t_int, t_tup, t_lst, t_non, w_cons, w_nil, wpS, wpE, wpEs, wpG, wpGs, wpI, wpT, startD, nb_fr, view_fr, it_fr, nb_int, nb_tup, nb_bl, nb_str, nb_lst, nb_scr, nb_non, nb_cell, nbs, g_name, g_tup, gsets, wipeD, noOw, itOk, view_int, view_tup, view_bl, view_str, view_lst, view_scr, view_non, at0, at1, at2, at3, ix0, ix1, ix2, tgN, List.map_cons, List.map_nil, List.append_nil, List.nil_append, List.cons_append, List.length_cons, List.length_nil, List.replicate_zero, List.replicate_succ, List.getElem?_cons_zero, List.getElem?_cons_succ, List.set_cons_zero, List.set_cons_succ, List.all_cons, List.all_nil, Bool.and_true, Bool.true_and, Nat.sub_self, Nat.add_sub_cancel_left, zeroNat, if_true, reduceCtorEq, true_and, and_true, ite_true, ite_false, Bool.false_eq_true, if_false, Nat.reduceAdd, Nat.reduceSub, Nat.reduceLT, Nat.zero_add, List.all, Bool.and_self, Int.reduceToNat, List.reduceReplicate, List.flatten_cons, List.flatten_nil, eq_self, permD, List.getD_cons_zero, List.getD_cons_succ, sIx21, List.take_succ_cons, List.take_zero, Nat.reduceLeDiff, and_self, decide_true, decide_false, Bool.not_true, Bool.not_false, dsc_nb, dsc_view, dsc_it]
  refine h27 (m + 4) q x1 12 200 W7 _ bq bx1 (by decide) ?_
  try simp only [↓w_for, ↓w_lc, b_add, b_addT, b_addL, b_sub, b_mul, b_mulL, b_mulT, b_fdiv, b_mod, b_pow, c_lt, c_le, c_gt, c_ge, c_eq, c_ne, c_eqS, c_neS, c_eq_tup, c_ne_tup, c_eq_lst, c_ne_lst, c_eq_bl, c_ne_bl, c_inT, c_ninT, i_int, i_intB, i_abs, i_dm, i_len_tup, i_len_lst, i_len_scr, i_max, i_min, i_gcd, i_isqrt, i_tuple1_tup, i_tuple1_lst, i_list1_tup, i_list1_lst, i_all, i_any, i_sum, i_repr_tup, i_repr_lst, i_repr_bl, i_repr_int, y_bl, y_int, y_str, y_tup, y_lst, y_non, it_tup, it_lst, it_scr, t_bl, t_int, t_tup, t_lst, t_non, w_cons, w_nil, wpS, wpE, wpEs, wpG, wpGs, wpI, wpT, startD, nb_fr, view_fr, it_fr, nb_int, nb_tup, nb_bl, nb_str, nb_lst, nb_scr, nb_non, nb_cell, nbs, g_name, g_tup, gsets, wipeD, noOw, itOk, view_int, view_tup, view_bl, view_str, view_lst, view_scr, view_non, at0, at1, at2, at3, ix0, ix1, ix2, tgN, List.map_cons, List.map_nil, List.append_nil, List.nil_append, List.cons_append, List.length_cons, List.length_nil, List.replicate_zero, List.replicate_succ, List.getElem?_cons_zero, List.getElem?_cons_succ, List.set_cons_zero, List.set_cons_succ, List.all_cons, List.all_nil, Bool.and_true, Bool.true_and, Nat.sub_self, Nat.add_sub_cancel_left, zeroNat, if_true, reduceCtorEq, true_and, and_true, ite_true, ite_false, Bool.false_eq_true, if_false, Nat.reduceAdd, Nat.reduceSub, Nat.reduceLT, Nat.zero_add, List.all, Bool.and_self, Int.reduceToNat, List.reduceReplicate, List.flatten_cons, List.flatten_nil, eq_self, permD, List.getD_cons_zero, List.getD_cons_succ, sIx21, List.take_succ_cons, List.take_zero, Nat.reduceLeDiff, and_self, decide_true, decide_false, Bool.not_true, Bool.not_false, dsc_nb, dsc_view, dsc_it]
  refine h27 (m + 4) q y1 12 200 W7 _ bq by1 (by decide) ?_
  try simp only [↓w_for, ↓w_lc, b_add, b_addT, b_addL, b_sub, b_mul, b_mulL, b_mulT, b_fdiv, b_mod, b_pow, c_lt, c_le, c_gt, c_ge, c_eq, c_ne, c_eqS, c_neS, c_eq_tup, c_ne_tup, c_eq_lst, c_ne_lst, c_eq_bl, c_ne_bl, c_inT, c_ninT, i_int, i_intB, i_abs, i_dm, i_len_tup, i_len_lst, i_len_scr, i_max, i_min, i_gcd, i_isqrt, i_tuple1_tup, i_tuple1_lst, i_list1_tup, i_list1_lst, i_all, i_any, i_sum, i_repr_tup, i_repr_lst, i_repr_bl, i_repr_int, y_bl, y_int, y_str, y_tup, y_lst, y_non, it_tup, it_lst, it_scr, t_bl, t_int, t_tup, t_lst, t_non, w_cons, w_nil, wpS, wpE, wpEs, wpG, wpGs, wpI, wpT, startD, nb_fr, view_fr, it_fr, nb_int, nb_tup, nb_bl, nb_str, nb_lst, nb_scr, nb_non, nb_cell, nbs, g_name, g_tup, gsets, wipeD, noOw, itOk, view_int, view_tup, view_bl, view_str, view_lst, view_scr, view_non, at0, at1, at2, at3, ix0, ix1, ix2, tgN, List.map_cons, List.map_nil, List.append_nil, List.nil_append, List.cons_append, List.length_cons, List.length_nil, List.replicate_zero, List.replicate_succ, List.getElem?_cons_zero, List.getElem?_cons_succ, List.set_cons_zero, List.set_cons_succ, List.all_cons, List.all_nil, Bool.and_true, Bool.true_and, Nat.sub_self, Nat.add_sub_cancel_left, zeroNat, if_true, reduceCtorEq, true_and, and_true, ite_true, ite_false, Bool.false_eq_true, if_false, Nat.reduceAdd, Nat.reduceSub, Nat.reduceLT, Nat.zero_add, List.all, Bool.and_self, Int.reduceToNat, List.reduceReplicate, List.flatten_cons, List.flatten_nil, eq_self, permD, List.getD_cons_zero, List.getD_cons_succ, sIx21, List.take_succ_cons, List.take_zero, Nat.reduceLeDiff, and_self, decide_true, decide_false, Bool.not_true, Bool.not_false]
  refine ⟨by decide, by decide, rest_go ?_⟩
  have ok : Ok [(u1, r1), (u2, r2), (uf, rf), (u1 + u2, r1 + r2), (q * u1, absR q * r1), (ut, rt)] [(x1, y1), (x2, y2), (x1, y1), (x1 + x2, y1 + y2), (q * x1, q * y1), (x1, y1)] := by
    refine ⟨rfl, rfl, fun p hp => ?_, fun p hp => ?_, fun k p z h1 h2 k2 k5 => ?_⟩
    · simp only [List.mem_cons, List.not_mem_nil, or_false] at hp
      rcases hp with rfl | rfl | rfl | rfl | rfl | rfl
      · exact ⟨cu1, cr1, p1⟩
      · exact ⟨cu2, cr2, p2⟩
      · exact ⟨buf, brf, pf⟩
      · exact ⟨bus.mono (by decide), brs.mono (by decide), ps⟩
      · exact ⟨bum.mono (by decide), brm.mono (by decide), pm⟩
      · exact ⟨but, brt, pt⟩
    · simp only [List.mem_cons, List.not_mem_nil, or_false] at hp
      rcases hp with rfl | rfl | rfl | rfl | rfl | rfl
      · exact ⟨m5 bx1 (by decide), m5 by1 (by decide)⟩
      · exact ⟨m5 bx2 (by decide), m5 by2 (by decide)⟩
      · exact ⟨m5 bx1 (by decide), m5 by1 (by decide)⟩
      · exact ⟨m5 (bx1.add bx2) (by decide), m5 (by1.add by2) (by decide)⟩
      · exact ⟨m5 (bq.mul bx1) (by decide), m5 (bq.mul by1) (by decide)⟩
      · exact ⟨m5 bx1 (by decide), m5 by1 (by decide)⟩
    · match k, h1, h2, k2, k5 with
      | 0, h1, h2, _, _ =>
        cases h1
        cases h2
        exact in1
      | 1, h1, h2, _, _ =>
        cases h1
        cases h2
        exact in2
      | 2, _, _, k2, _ => exact absurd rfl k2
      | 3, h1, h2, _, _ =>
        cases h1
        cases h2
        exact both_ok p1 p2 in1 in2
      | 4, h1, h2, _, _ =>
        cases h1
        cases h2
        exact times_in in1
      | 5, _, _, _, k5 => exact absurd rfl k5
      | n + 6, h1, _, _, _ => simp at h1
  try simp only [↓w_for, ↓w_lc, b_add, b_addT, b_addL, b_sub, b_mul, b_mulL, b_mulT, b_fdiv, b_mod, b_pow, c_lt, c_le, c_gt, c_ge, c_eq, c_ne, c_eqS, c_neS, c_eq_tup, c_ne_tup, c_eq_lst, c_ne_lst, c_eq_bl, c_ne_bl, c_inT, c_ninT, i_int, i_intB, i_abs, i_dm, i_len_tup, i_len_lst, i_len_scr, i_max, i_min, i_gcd, i_isqrt, i_tuple1_tup, i_tuple1_lst, i_list1_tup, i_list1_lst, i_all, i_any, i_sum, i_repr_tup, i_repr_lst, i_repr_bl, i_repr_int, y_bl, y_int, y_str, y_tup, y_lst, y_non, it_tup, it_lst, it_scr, t_bl, t_int, t_tup, t_lst, t_non, w_cons, w_nil, wpS, wpE, wpEs, wpG, wpGs, wpI, wpT, startD, nb_fr, view_fr, it_fr, nb_int, nb_tup, nb_bl, nb_str, nb_lst, nb_scr, nb_non, nb_cell, nbs, g_name, g_tup, gsets, wipeD, noOw, itOk, view_int, view_tup, view_bl, view_str, view_lst, view_scr, view_non, at0, at1, at2, at3, ix0, ix1, ix2, tgN, List.map_cons, List.map_nil, List.append_nil, List.nil_append, List.cons_append, List.length_cons, List.length_nil, List.replicate_zero, List.replicate_succ, List.getElem?_cons_zero, List.getElem?_cons_succ, List.set_cons_zero, List.set_cons_succ, List.all_cons, List.all_nil, Bool.and_true, Bool.true_and, Nat.sub_self, Nat.add_sub_cancel_left, zeroNat, if_true, reduceCtorEq, true_and, and_true, ite_true, ite_false, Bool.false_eq_true, if_false, Nat.reduceAdd, Nat.reduceSub, Nat.reduceLT, Nat.zero_add, List.all, Bool.and_self, Int.reduceToNat, List.reduceReplicate, List.flatten_cons, List.flatten_nil, eq_self, permD, List.getD_cons_zero, List.getD_cons_succ, sIx21, List.take_succ_cons, List.take_zero, Nat.reduceLeDiff, and_self, decide_true, decide_false, Bool.not_true, Bool.not_false]
  refine ⟨by decide, outer ok fun y14 y15 y16 => rest_go ?_⟩
  try simp only [↓w_for, ↓w_lc, b_add, b_addT, b_addL, b_sub, b_mul, b_mulL, b_mulT, b_fdiv, b_mod, b_pow, c_lt, c_le, c_gt, c_ge, c_eq, c_ne, c_eqS, c_neS, c_eq_tup, c_ne_tup, c_eq_lst, c_ne_lst, c_eq_bl, c_ne_bl, c_inT, c_ninT, i_int, i_intB, i_abs, i_dm, i_len_tup, i_len_lst, i_len_scr, i_max, i_min, i_gcd, i_isqrt, i_tuple1_tup, i_tuple1_lst, i_list1_tup, i_list1_lst, i_all, i_any, i_sum, i_repr_tup, i_repr_lst, i_repr_bl, i_repr_int, y_bl, y_int, y_str, y_tup, y_lst, y_non, it_tup, it_lst, it_scr, t_bl, t_int, t_tup, t_lst, t_non, w_cons, w_nil, wpS, wpE, wpEs, wpG, wpGs, wpI, wpT, startD, nb_fr, view_fr, it_fr, nb_int, nb_tup, nb_bl, nb_str, nb_lst, nb_scr, nb_non, nb_cell, nbs, g_name, g_tup, gsets, wipeD, noOw, itOk, view_int, view_tup, view_bl, view_str, view_lst, view_scr, view_non, at0, at1, at2, at3, ix0, ix1, ix2, tgN, List.map_cons, List.map_nil, List.append_nil, List.nil_append, List.cons_append, List.length_cons, List.length_nil, List.replicate_zero, List.replicate_succ, List.getElem?_cons_zero, List.getElem?_cons_succ, List.set_cons_zero, List.set_cons_succ, List.all_cons, List.all_nil, Bool.and_true, Bool.true_and, Nat.sub_self, Nat.add_sub_cancel_left, zeroNat, if_true, reduceCtorEq, true_and, and_true, ite_true, ite_false, Bool.false_eq_true, if_false, Nat.reduceAdd, Nat.reduceSub, Nat.reduceLT, Nat.zero_add, List.all, Bool.and_self, Int.reduceToNat, List.reduceReplicate, List.flatten_cons, List.flatten_nil, eq_self, permD, List.getD_cons_zero, List.getD_cons_succ, sIx21, List.take_succ_cons, List.take_zero, Nat.reduceLeDiff, and_self, decide_true, decide_false, Bool.not_true, Bool.not_false, dsc_nb]
  refine h17 m u1 r1 uf rf W7 _ (m5 bu1 (by decide)) (m5 br1 (by decide)) (m5 buf (by decide)) (m5 brf (by decide)) p1 pf ?_
  try simp only [↓w_for, ↓w_lc, b_add, b_addT, b_addL, b_sub, b_mul, b_mulL, b_mulT, b_fdiv, b_mod, b_pow, c_lt, c_le, c_gt, c_ge, c_eq, c_ne, c_eqS, c_neS, c_eq_tup, c_ne_tup, c_eq_lst, c_ne_lst, c_eq_bl, c_ne_bl, c_inT, c_ninT, i_int, i_intB, i_abs, i_dm, i_len_tup, i_len_lst, i_len_scr, i_max, i_min, i_gcd, i_isqrt, i_tuple1_tup, i_tuple1_lst, i_list1_tup, i_list1_lst, i_all, i_any, i_sum, i_repr_tup, i_repr_lst, i_repr_bl, i_repr_int, y_bl, y_int, y_str, y_tup, y_lst, y_non, it_tup, it_lst, it_scr, t_bl, t_int, t_tup, t_lst, t_non, w_cons, w_nil, wpS, wpE, wpEs, wpG, wpGs, wpI, wpT, startD, nb_fr, view_fr, it_fr, nb_int, nb_tup, nb_bl, nb_str, nb_lst, nb_scr, nb_non, nb_cell, nbs, g_name, g_tup, gsets, wipeD, noOw, itOk, view_int, view_tup, view_bl, view_str, view_lst, view_scr, view_non, at0, at1, at2, at3, ix0, ix1, ix2, tgN, List.map_cons, List.map_nil, List.append_nil, List.nil_append, List.cons_append, List.length_cons, List.length_nil, List.replicate_zero, List.replicate_succ, List.getElem?_cons_zero, List.getElem?_cons_succ, List.set_cons_zero, List.set_cons_succ, List.all_cons, List.all_nil, Bool.and_true, Bool.true_and, Nat.sub_self, Nat.add_sub_cancel_left, zeroNat, if_true, reduceCtorEq, true_and, and_true, ite_true, ite_false, Bool.false_eq_true, if_false, Nat.reduceAdd, Nat.reduceSub, Nat.reduceLT, Nat.zero_add, List.all, Bool.and_self, Int.reduceToNat, List.reduceReplicate, List.flatten_cons, List.flatten_nil, eq_self, permD, List.getD_cons_zero, List.getD_cons_succ, sIx21, List.take_succ_cons, List.take_zero, Nat.reduceLeDiff, and_self, decide_true, decide_false, Bool.not_true, Bool.not_false, dsc_nb]
  refine rest_go ?_
  try simp only [↓w_for, ↓w_lc, b_add, b_addT, b_addL, b_sub, b_mul, b_mulL, b_mulT, b_fdiv, b_mod, b_pow, c_lt, c_le, c_gt, c_ge, c_eq, c_ne, c_eqS, c_neS, c_eq_tup, c_ne_tup, c_eq_lst, c_ne_lst, c_eq_bl, c_ne_bl, c_inT, c_ninT, i_int, i_intB, i_abs, i_dm, i_len_tup, i_len_lst, i_len_scr, i_max, i_min, i_gcd, i_isqrt, i_tuple1_tup, i_tuple1_lst, i_list1_tup, i_list1_lst, i_all, i_any, i_sum, i_repr_tup, i_repr_lst, i_repr_bl, i_repr_int, y_bl, y_int, y_str, y_tup, y_lst, y_non, it_tup, it_lst, it_scr, t_bl, t_int, t_tup, t_lst, t_non, w_cons, w_nil, wpS, wpE, wpEs, wpG, wpGs, wpI, wpT, startD, nb_fr, view_fr, it_fr, nb_int, nb_tup, nb_bl, nb_str, nb_lst, nb_scr, nb_non, nb_cell, nbs, g_name, g_tup, gsets, wipeD, noOw, itOk, view_int, view_tup, view_bl, view_str, view_lst, view_scr, view_non, at0, at1, at2, at3, ix0, ix1, ix2, tgN, List.map_cons, List.map_nil, List.append_nil, List.nil_append, List.cons_append, List.length_cons, List.length_nil, List.replicate_zero, List.replicate_succ, List.getElem?_cons_zero, List.getElem?_cons_succ, List.set_cons_zero, List.set_cons_succ, List.all_cons, List.all_nil, Bool.and_true, Bool.true_and, Nat.sub_self, Nat.add_sub_cancel_left, zeroNat, if_true, reduceCtorEq, true_and, and_true, ite_true, ite_false, Bool.false_eq_true, if_false, Nat.reduceAdd, Nat.reduceSub, Nat.reduceLT, Nat.zero_add, List.all, Bool.and_self, Int.reduceToNat, List.reduceReplicate, List.flatten_cons, List.flatten_nil, eq_self, permD, List.getD_cons_zero, List.getD_cons_succ, sIx21, List.take_succ_cons, List.take_zero, Nat.reduceLeDiff, and_self, decide_true, decide_false, Bool.not_true, Bool.not_false, dsc_nb]
  refine h18 m uf rf u2 r2 W7 _ (m5 buf (by decide)) (m5 brf (by decide)) (m5 bu2 (by decide)) (m5 br2 (by decide)) pf p2 ?_
  try simp only [↓w_for, ↓w_lc, b_add, b_addT, b_addL, b_sub, b_mul, b_mulL, b_mulT, b_fdiv, b_mod, b_pow, c_lt, c_le, c_gt, c_ge, c_eq, c_ne, c_eqS, c_neS, c_eq_tup, c_ne_tup, c_eq_lst, c_ne_lst, c_eq_bl, c_ne_bl, c_inT, c_ninT, i_int, i_intB, i_abs, i_dm, i_len_tup, i_len_lst, i_len_scr, i_max, i_min, i_gcd, i_isqrt, i_tuple1_tup, i_tuple1_lst, i_list1_tup, i_list1_lst, i_all, i_any, i_sum, i_repr_tup, i_repr_lst, i_repr_bl, i_repr_int, y_bl, y_int, y_str, y_tup, y_lst, y_non, it_tup, it_lst, it_scr, t_bl, t_int, t_tup, t_lst, t_non, w_cons, w_nil, wpS, wpE, wpEs, wpG, wpGs, wpI, wpT, startD, nb_fr, view_fr, it_fr, nb_int, nb_tup, nb_bl, nb_str, nb_lst, nb_scr, nb_non, nb_cell, nbs, g_name, g_tup, gsets, wipeD, noOw, itOk, view_int, view_tup, view_bl, view_str, view_lst, view_scr, view_non, at0, at1, at2, at3, ix0, ix1, ix2, tgN, List.map_cons, List.map_nil, List.append_nil, List.nil_append, List.cons_append, List.length_cons, List.length_nil, List.replicate_zero, List.replicate_succ, List.getElem?_cons_zero, List.getElem?_cons_succ, List.set_cons_zero, List.set_cons_succ, List.all_cons, List.all_nil, Bool.and_true, Bool.true_and, Nat.sub_self, Nat.add_sub_cancel_left, zeroNat, if_true, reduceCtorEq, true_and, and_true, ite_true, ite_false, Bool.false_eq_true, if_false, Nat.reduceAdd, Nat.reduceSub, Nat.reduceLT, Nat.zero_add, List.all, Bool.and_self, Int.reduceToNat, List.reduceReplicate, List.flatten_cons, List.flatten_nil, eq_self, permD, List.getD_cons_zero, List.getD_cons_succ, sIx21, List.take_succ_cons, List.take_zero, Nat.reduceLeDiff, and_self, decide_true, decide_false, Bool.not_true, Bool.not_false, dsc_nb]
  refine h17 m (u1 + u2) (r1 + r2) (uf + u2) (rf + r2) W7 _ (m5 bus (by decide)) (m5 brs (by decide)) (m5 (buf.add bu2) (by decide)) (m5 (brf.add br2) (by decide)) ps (Rat.add_nonneg pf p2) ?_
  rw [inn_shift]
  try simp only [↓w_for, ↓w_lc, b_add, b_addT, b_addL, b_sub, b_mul, b_mulL, b_mulT, b_fdiv, b_mod, b_pow, c_lt, c_le, c_gt, c_ge, c_eq, c_ne, c_eqS, c_neS, c_eq_tup, c_ne_tup, c_eq_lst, c_ne_lst, c_eq_bl, c_ne_bl, c_inT, c_ninT, i_int, i_intB, i_abs, i_dm, i_len_tup, i_len_lst, i_len_scr, i_max, i_min, i_gcd, i_isqrt, i_tuple1_tup, i_tuple1_lst, i_list1_tup, i_list1_lst, i_all, i_any, i_sum, i_repr_tup, i_repr_lst, i_repr_bl, i_repr_int, y_bl, y_int, y_str, y_tup, y_lst, y_non, it_tup, it_lst, it_scr, t_bl, t_int, t_tup, t_lst, t_non, w_cons, w_nil, wpS, wpE, wpEs, wpG, wpGs, wpI, wpT, startD, nb_fr, view_fr, it_fr, nb_int, nb_tup, nb_bl, nb_str, nb_lst, nb_scr, nb_non, nb_cell, nbs, g_name, g_tup, gsets, wipeD, noOw, itOk, view_int, view_tup, view_bl, view_str, view_lst, view_scr, view_non, at0, at1, at2, at3, ix0, ix1, ix2, tgN, List.map_cons, List.map_nil, List.append_nil, List.nil_append, List.cons_append, List.length_cons, List.length_nil, List.replicate_zero, List.replicate_succ, List.getElem?_cons_zero, List.getElem?_cons_succ, List.set_cons_zero, List.set_cons_succ, List.all_cons, List.all_nil, Bool.and_true, Bool.true_and, Nat.sub_self, Nat.add_sub_cancel_left, zeroNat, if_true, reduceCtorEq, true_and, and_true, ite_true, ite_false, Bool.false_eq_true, if_false, Nat.reduceAdd, Nat.reduceSub, Nat.reduceLT, Nat.zero_add, List.all, Bool.and_self, Int.reduceToNat, List.reduceReplicate, List.flatten_cons, List.flatten_nil, eq_self, permD, List.getD_cons_zero, List.getD_cons_succ, sIx21, List.take_succ_cons, List.take_zero, Nat.reduceLeDiff, and_self, decide_true, decide_false, Bool.not_true, Bool.not_false, dsc_nb]
  refine ⟨bl_ok _, bl_ok _, rest_go ?_⟩
  -- the last test
  have fin : wpSs ⟨wpC fs cs (m + 7), cs⟩ (.cons (.ret (.cmp .eq (.bi .repr1 (.cons (.call 19 (.cons (.var 7) (.cons (.var 4) .nil))) .nil)) (.bi .repr1 (.cons (.call 18 (.cons (.var 8) (.cons (.call 19 (.cons (.var 2) (.cons (.var 4) .nil))) .nil))) .nil)))) .nil)
      [.sh (.cell k), .sh (dsc u1 r1), .sh (dsc u2 r2), .sh (dsc uf rf), .sh (fr q), .sh (dsc x1 y1), .sh (dsc x2 y2), .sh (dsc (u1 + u2) (r1 + r2)), .sh (dsc (q * u1) (absR q * r1)), .sh (.lst [dsc (u1 + u2) (r1 + r2), dsc (q * u1) (absR q * r1)]), .sh (dsc ut rt),
        .sh (.lst [dsc u1 r1, dsc u2 r2, dsc uf rf, dsc (u1 + u2) (r1 + r2), dsc (q * u1) (absR q * r1), dsc ut rt]), .sh (dsc (x1 + x2) (y1 + y2)), .sh (.lst [dsc x1 y1, dsc x2 y2, dsc x1 y1, dsc (x1 + x2) (y1 + y2), dsc (q * x1) (q * y1), dsc x1 y1]), y14, y15, .sh (.bl (inn u1 r1 uf rf))] W7
      { nx := fun _ W1 => Q .non W1, rt := Q, bk := fun _ _ => False, ct := fun _ _ => False } := by
    try simp only [↓w_for, ↓w_lc, b_add, b_addT, b_addL, b_sub, b_mul, b_mulL, b_mulT, b_fdiv, b_mod, b_pow, c_lt, c_le, c_gt, c_ge, c_eq, c_ne, c_eqS, c_neS, c_eq_tup, c_ne_tup, c_eq_lst, c_ne_lst, c_eq_bl, c_ne_bl, c_inT, c_ninT, i_int, i_intB, i_abs, i_dm, i_len_tup, i_len_lst, i_len_scr, i_max, i_min, i_gcd, i_isqrt, i_tuple1_tup, i_tuple1_lst, i_list1_tup, i_list1_lst, i_all, i_any, i_sum, i_repr_tup, i_repr_lst, i_repr_bl, i_repr_int, y_bl, y_int, y_str, y_tup, y_lst, y_non, it_tup, it_lst, it_scr, t_bl, t_int, t_tup, t_lst, t_non, w_cons, w_nil, wpS, wpE, wpEs, wpG, wpGs, wpI, wpT, startD, nb_fr, view_fr, it_fr, nb_int, nb_tup, nb_bl, nb_str, nb_lst, nb_scr, nb_non, nb_cell, nbs, g_name, g_tup, gsets, wipeD, noOw, itOk, view_int, view_tup, view_bl, view_str, view_lst, view_scr, view_non, at0, at1, at2, at3, ix0, ix1, ix2, tgN, List.map_cons, List.map_nil, List.append_nil, List.nil_append, List.cons_append, List.length_cons, List.length_nil, List.replicate_zero, List.replicate_succ, List.getElem?_cons_zero, List.getElem?_cons_succ, List.set_cons_zero, List.set_cons_succ, List.all_cons, List.all_nil, Bool.and_true, Bool.true_and, Nat.sub_self, Nat.add_sub_cancel_left, zeroNat, if_true, reduceCtorEq, true_and, and_true, ite_true, ite_false, Bool.false_eq_true, if_false, Nat.reduceAdd, Nat.reduceSub, Nat.reduceLT, Nat.zero_add, List.all, Bool.and_self, Int.reduceToNat, List.reduceReplicate, List.flatten_cons, List.flatten_nil, eq_self, permD, List.getD_cons_zero, List.getD_cons_succ, sIx21, List.take_succ_cons, List.take_zero, Nat.reduceLeDiff, and_self, decide_true, decide_false, Bool.not_true, Bool.not_false, dsc_nb]
    refine h19 m (u1 + u2) (r1 + r2) q W7 _ (m5 bus (by decide)) (m5 brs (by decide)) (m5 bq (by decide)) ps ?_
    have w1 := bq.mul bus
    have w2 := bq.abs.mul brs
    try simp only [↓w_for, ↓w_lc, b_add, b_addT, b_addL, b_sub, b_mul, b_mulL, b_mulT, b_fdiv, b_mod, b_pow, c_lt, c_le, c_gt, c_ge, c_eq, c_ne, c_eqS, c_neS, c_eq_tup, c_ne_tup, c_eq_lst, c_ne_lst, c_eq_bl, c_ne_bl, c_inT, c_ninT, i_int, i_intB, i_abs, i_dm, i_len_tup, i_len_lst, i_len_scr, i_max, i_min, i_gcd, i_isqrt, i_tuple1_tup, i_tuple1_lst, i_list1_tup, i_list1_lst, i_all, i_any, i_sum, i_repr_tup, i_repr_lst, i_repr_bl, i_repr_int, y_bl, y_int, y_str, y_tup, y_lst, y_non, it_tup, it_lst, it_scr, t_bl, t_int, t_tup, t_lst, t_non, w_cons, w_nil, wpS, wpE, wpEs, wpG, wpGs, wpI, wpT, startD, nb_fr, view_fr, it_fr, nb_int, nb_tup, nb_bl, nb_str, nb_lst, nb_scr, nb_non, nb_cell, nbs, g_name, g_tup, gsets, wipeD, noOw, itOk, view_int, view_tup, view_bl, view_str, view_lst, view_scr, view_non, at0, at1, at2, at3, ix0, ix1, ix2, tgN, List.map_cons, List.map_nil, List.append_nil, List.nil_append, List.cons_append, List.length_cons, List.length_nil, List.replicate_zero, List.replicate_succ, List.getElem?_cons_zero, List.getElem?_cons_succ, List.set_cons_zero, List.set_cons_succ, List.all_cons, List.all_nil, Bool.and_true, Bool.true_and, Nat.sub_self, Nat.add_sub_cancel_left, zeroNat, if_true, reduceCtorEq, true_and, and_true, ite_true, ite_false, Bool.false_eq_true, if_false, Nat.reduceAdd, Nat.reduceSub, Nat.reduceLT, Nat.zero_add, List.all, Bool.and_self, Int.reduceToNat, List.reduceReplicate, List.flatten_cons, List.flatten_nil, eq_self, permD, List.getD_cons_zero, List.getD_cons_succ, sIx21, List.take_succ_cons, List.take_zero, Nat.reduceLeDiff, and_self, decide_true, decide_false, Bool.not_true, Bool.not_false, dsc_nb, dsc_view, repr_dsc]
    refine ⟨dsc_ok w1 w2 (by decide), ?_⟩
    refine h19 m u2 r2 q W7 _ (m5 bu2 (by decide)) (m5 br2 (by decide)) (m5 bq (by decide)) p2 ?_
    have w3 := bq.mul bu2
    have w4 := bq.abs.mul br2
    try simp only [↓w_for, ↓w_lc, b_add, b_addT, b_addL, b_sub, b_mul, b_mulL, b_mulT, b_fdiv, b_mod, b_pow, c_lt, c_le, c_gt, c_ge, c_eq, c_ne, c_eqS, c_neS, c_eq_tup, c_ne_tup, c_eq_lst, c_ne_lst, c_eq_bl, c_ne_bl, c_inT, c_ninT, i_int, i_intB, i_abs, i_dm, i_len_tup, i_len_lst, i_len_scr, i_max, i_min, i_gcd, i_isqrt, i_tuple1_tup, i_tuple1_lst, i_list1_tup, i_list1_lst, i_all, i_any, i_sum, i_repr_tup, i_repr_lst, i_repr_bl, i_repr_int, y_bl, y_int, y_str, y_tup, y_lst, y_non, it_tup, it_lst, it_scr, t_bl, t_int, t_tup, t_lst, t_non, w_cons, w_nil, wpS, wpE, wpEs, wpG, wpGs, wpI, wpT, startD, nb_fr, view_fr, it_fr, nb_int, nb_tup, nb_bl, nb_str, nb_lst, nb_scr, nb_non, nb_cell, nbs, g_name, g_tup, gsets, wipeD, noOw, itOk, view_int, view_tup, view_bl, view_str, view_lst, view_scr, view_non, at0, at1, at2, at3, ix0, ix1, ix2, tgN, List.map_cons, List.map_nil, List.append_nil, List.nil_append, List.cons_append, List.length_cons, List.length_nil, List.replicate_zero, List.replicate_succ, List.getElem?_cons_zero, List.getElem?_cons_succ, List.set_cons_zero, List.set_cons_succ, List.all_cons, List.all_nil, Bool.and_true, Bool.true_and, Nat.sub_self, Nat.add_sub_cancel_left, zeroNat, if_true, reduceCtorEq, true_and, and_true, ite_true, ite_false, Bool.false_eq_true, if_false, Nat.reduceAdd, Nat.reduceSub, Nat.reduceLT, Nat.zero_add, List.all, Bool.and_self, Int.reduceToNat, List.reduceReplicate, List.flatten_cons, List.flatten_nil, eq_self, permD, List.getD_cons_zero, List.getD_cons_succ, sIx21, List.take_succ_cons, List.take_zero, Nat.reduceLeDiff, and_self, decide_true, decide_false, Bool.not_true, Bool.not_false, dsc_nb]
    refine h18 m (q * u1) (absR q * r1) (q * u2) (absR q * r2) W7 _ (m5 bum (by decide)) (m5 brm (by decide)) (m5 w3 (by decide)) (m5 w4 (by decide)) pm (Rat.mul_nonneg aq p2) ?_
    rw [← Rat.mul_add, ← Rat.mul_add]
    try simp only [↓w_for, ↓w_lc, b_add, b_addT, b_addL, b_sub, b_mul, b_mulL, b_mulT, b_fdiv, b_mod, b_pow, c_lt, c_le, c_gt, c_ge, c_eq, c_ne, c_eqS, c_neS, c_eq_tup, c_ne_tup, c_eq_lst, c_ne_lst, c_eq_bl, c_ne_bl, c_inT, c_ninT, i_int, i_intB, i_abs, i_dm, i_len_tup, i_len_lst, i_len_scr, i_max, i_min, i_gcd, i_isqrt, i_tuple1_tup, i_tuple1_lst, i_list1_tup, i_list1_lst, i_all, i_any, i_sum, i_repr_tup, i_repr_lst, i_repr_bl, i_repr_int, y_bl, y_int, y_str, y_tup, y_lst, y_non, it_tup, it_lst, it_scr, t_bl, t_int, t_tup, t_lst, t_non, w_cons, w_nil, wpS, wpE, wpEs, wpG, wpGs, wpI, wpT, startD, nb_fr, view_fr, it_fr, nb_int, nb_tup, nb_bl, nb_str, nb_lst, nb_scr, nb_non, nb_cell, nbs, g_name, g_tup, gsets, wipeD, noOw, itOk, view_int, view_tup, view_bl, view_str, view_lst, view_scr, view_non, at0, at1, at2, at3, ix0, ix1, ix2, tgN, List.map_cons, List.map_nil, List.append_nil, List.nil_append, List.cons_append, List.length_cons, List.length_nil, List.replicate_zero, List.replicate_succ, List.getElem?_cons_zero, List.getElem?_cons_succ, List.set_cons_zero, List.set_cons_succ, List.all_cons, List.all_nil, Bool.and_true, Bool.true_and, Nat.sub_self, Nat.add_sub_cancel_left, zeroNat, if_true, reduceCtorEq, true_and, and_true, ite_true, ite_false, Bool.false_eq_true, if_false, Nat.reduceAdd, Nat.reduceSub, Nat.reduceLT, Nat.zero_add, List.all, Bool.and_self, Int.reduceToNat, List.reduceReplicate, List.flatten_cons, List.flatten_nil, eq_self, permD, List.getD_cons_zero, List.getD_cons_succ, sIx21, List.take_succ_cons, List.take_zero, Nat.reduceLeDiff, and_self, decide_true, decide_false, Bool.not_true, Bool.not_false, dsc_nb, dsc_view, repr_dsc]
    exact ⟨dsc_ok w1 w2 (by decide), hQ _⟩
  cases hd : decide (q.num = 0) with
  | true =>
    try simp only [↓w_for, ↓w_lc, b_add, b_addT, b_addL, b_sub, b_mul, b_mulL, b_mulT, b_fdiv, b_mod, b_pow, c_lt, c_le, c_gt, c_ge, c_eq, c_ne, c_eqS, c_neS, c_eq_tup, c_ne_tup, c_eq_lst, c_ne_lst, c_eq_bl, c_ne_bl, c_inT, c_ninT, i_int, i_intB, i_abs, i_dm, i_len_tup, i_len_lst, i_len_scr, i_max, i_min, i_gcd, i_isqrt, i_tuple1_tup, i_tuple1_lst, i_list1_tup, i_list1_lst, i_all, i_any, i_sum, i_repr_tup, i_repr_lst, i_repr_bl, i_repr_int, y_bl, y_int, y_str, y_tup, y_lst, y_non, it_tup, it_lst, it_scr, t_bl, t_int, t_tup, t_lst, t_non, w_cons, w_nil, wpS, wpE, wpEs, wpG, wpGs, wpI, wpT, startD, nb_fr, view_fr, it_fr, nb_int, nb_tup, nb_bl, nb_str, nb_lst, nb_scr, nb_non, nb_cell, nbs, g_name, g_tup, gsets, wipeD, noOw, itOk, view_int, view_tup, view_bl, view_str, view_lst, view_scr, view_non, at0, at1, at2, at3, ix0, ix1, ix2, tgN, List.map_cons, List.map_nil, List.append_nil, List.nil_append, List.cons_append, List.length_cons, List.length_nil, List.replicate_zero, List.replicate_succ, List.getElem?_cons_zero, List.getElem?_cons_succ, List.set_cons_zero, List.set_cons_succ, List.all_cons, List.all_nil, Bool.and_true, Bool.true_and, Nat.sub_self, Nat.add_sub_cancel_left, zeroNat, if_true, reduceCtorEq, true_and, and_true, ite_true, ite_false, Bool.false_eq_true, if_false, Nat.reduceAdd, Nat.reduceSub, Nat.reduceLT, Nat.zero_add, List.all, Bool.and_self, Int.reduceToNat, List.reduceReplicate, List.flatten_cons, List.flatten_nil, eq_self, permD, List.getD_cons_zero, List.getD_cons_succ, sIx21, List.take_succ_cons, List.take_zero, Nat.reduceLeDiff, and_self, decide_true, decide_false, Bool.not_true, Bool.not_false, hd]
    refine rest_go ?_
    exact fin
  | false =>
    have q0 : q ≠ 0 := by
      intro z
      subst z
      exact absurd hd (by decide)
    try simp only [↓w_for, ↓w_lc, b_add, b_addT, b_addL, b_sub, b_mul, b_mulL, b_mulT, b_fdiv, b_mod, b_pow, c_lt, c_le, c_gt, c_ge, c_eq, c_ne, c_eqS, c_neS, c_eq_tup, c_ne_tup, c_eq_lst, c_ne_lst, c_eq_bl, c_ne_bl, c_inT, c_ninT, i_int, i_intB, i_abs, i_dm, i_len_tup, i_len_lst, i_len_scr, i_max, i_min, i_gcd, i_isqrt, i_tuple1_tup, i_tuple1_lst, i_list1_tup, i_list1_lst, i_all, i_any, i_sum, i_repr_tup, i_repr_lst, i_repr_bl, i_repr_int, y_bl, y_int, y_str, y_tup, y_lst, y_non, it_tup, it_lst, it_scr, t_bl, t_int, t_tup, t_lst, t_non, w_cons, w_nil, wpS, wpE, wpEs, wpG, wpGs, wpI, wpT, startD, nb_fr, view_fr, it_fr, nb_int, nb_tup, nb_bl, nb_str, nb_lst, nb_scr, nb_non, nb_cell, nbs, g_name, g_tup, gsets, wipeD, noOw, itOk, view_int, view_tup, view_bl, view_str, view_lst, view_scr, view_non, at0, at1, at2, at3, ix0, ix1, ix2, tgN, List.map_cons, List.map_nil, List.append_nil, List.nil_append, List.cons_append, List.length_cons, List.length_nil, List.replicate_zero, List.replicate_succ, List.getElem?_cons_zero, List.getElem?_cons_succ, List.set_cons_zero, List.set_cons_succ, List.all_cons, List.all_nil, Bool.and_true, Bool.true_and, Nat.sub_self, Nat.add_sub_cancel_left, zeroNat, if_true, reduceCtorEq, true_and, and_true, ite_true, ite_false, Bool.false_eq_true, if_false, Nat.reduceAdd, Nat.reduceSub, Nat.reduceLT, Nat.zero_add, List.all, Bool.and_self, Int.reduceToNat, List.reduceReplicate, List.flatten_cons, List.flatten_nil, eq_self, permD, List.getD_cons_zero, List.getD_cons_succ, sIx21, List.take_succ_cons, List.take_zero, Nat.reduceLeDiff, and_self, decide_true, decide_false, Bool.not_true, Bool.not_false, dsc_nb, hd]
    refine h19 m uf rf q W7 _ (m5 buf (by decide)) (m5 brf (by decide)) (m5 bq (by decide)) pf ?_
    have w5 := bq.mul buf
    have w6 := bq.abs.mul brf
    try simp only [↓w_for, ↓w_lc, b_add, b_addT, b_addL, b_sub, b_mul, b_mulL, b_mulT, b_fdiv, b_mod, b_pow, c_lt, c_le, c_gt, c_ge, c_eq, c_ne, c_eqS, c_neS, c_eq_tup, c_ne_tup, c_eq_lst, c_ne_lst, c_eq_bl, c_ne_bl, c_inT, c_ninT, i_int, i_intB, i_abs, i_dm, i_len_tup, i_len_lst, i_len_scr, i_max, i_min, i_gcd, i_isqrt, i_tuple1_tup, i_tuple1_lst, i_list1_tup, i_list1_lst, i_all, i_any, i_sum, i_repr_tup, i_repr_lst, i_repr_bl, i_repr_int, y_bl, y_int, y_str, y_tup, y_lst, y_non, it_tup, it_lst, it_scr, t_bl, t_int, t_tup, t_lst, t_non, w_cons, w_nil, wpS, wpE, wpEs, wpG, wpGs, wpI, wpT, startD, nb_fr, view_fr, it_fr, nb_int, nb_tup, nb_bl, nb_str, nb_lst, nb_scr, nb_non, nb_cell, nbs, g_name, g_tup, gsets, wipeD, noOw, itOk, view_int, view_tup, view_bl, view_str, view_lst, view_scr, view_non, at0, at1, at2, at3, ix0, ix1, ix2, tgN, List.map_cons, List.map_nil, List.append_nil, List.nil_append, List.cons_append, List.length_cons, List.length_nil, List.replicate_zero, List.replicate_succ, List.getElem?_cons_zero, List.getElem?_cons_succ, List.set_cons_zero, List.set_cons_succ, List.all_cons, List.all_nil, Bool.and_true, Bool.true_and, Nat.sub_self, Nat.add_sub_cancel_left, zeroNat, if_true, reduceCtorEq, true_and, and_true, ite_true, ite_false, Bool.false_eq_true, if_false, Nat.reduceAdd, Nat.reduceSub, Nat.reduceLT, Nat.zero_add, List.all, Bool.and_self, Int.reduceToNat, List.reduceReplicate, List.flatten_cons, List.flatten_nil, eq_self, permD, List.getD_cons_zero, List.getD_cons_succ, sIx21, List.take_succ_cons, List.take_zero, Nat.reduceLeDiff, and_self, decide_true, decide_false, Bool.not_true, Bool.not_false, dsc_nb]
    refine h17 m (q * u1) (absR q * r1) (q * uf) (absR q * rf) W7 _ (m5 bum (by decide)) (m5 brm (by decide)) (m5 w5 (by decide)) (m5 w6 (by decide)) pm (Rat.mul_nonneg aq pf) ?_
    rw [inn_times q0]
    try simp only [↓w_for, ↓w_lc, b_add, b_addT, b_addL, b_sub, b_mul, b_mulL, b_mulT, b_fdiv, b_mod, b_pow, c_lt, c_le, c_gt, c_ge, c_eq, c_ne, c_eqS, c_neS, c_eq_tup, c_ne_tup, c_eq_lst, c_ne_lst, c_eq_bl, c_ne_bl, c_inT, c_ninT, i_int, i_intB, i_abs, i_dm, i_len_tup, i_len_lst, i_len_scr, i_max, i_min, i_gcd, i_isqrt, i_tuple1_tup, i_tuple1_lst, i_list1_tup, i_list1_lst, i_all, i_any, i_sum, i_repr_tup, i_repr_lst, i_repr_bl, i_repr_int, y_bl, y_int, y_str, y_tup, y_lst, y_non, it_tup, it_lst, it_scr, t_bl, t_int, t_tup, t_lst, t_non, w_cons, w_nil, wpS, wpE, wpEs, wpG, wpGs, wpI, wpT, startD, nb_fr, view_fr, it_fr, nb_int, nb_tup, nb_bl, nb_str, nb_lst, nb_scr, nb_non, nb_cell, nbs, g_name, g_tup, gsets, wipeD, noOw, itOk, view_int, view_tup, view_bl, view_str, view_lst, view_scr, view_non, at0, at1, at2, at3, ix0, ix1, ix2, tgN, List.map_cons, List.map_nil, List.append_nil, List.nil_append, List.cons_append, List.length_cons, List.length_nil, List.replicate_zero, List.replicate_succ, List.getElem?_cons_zero, List.getElem?_cons_succ, List.set_cons_zero, List.set_cons_succ, List.all_cons, List.all_nil, Bool.and_true, Bool.true_and, Nat.sub_self, Nat.add_sub_cancel_left, zeroNat, if_true, reduceCtorEq, true_and, and_true, ite_true, ite_false, Bool.false_eq_true, if_false, Nat.reduceAdd, Nat.reduceSub, Nat.reduceLT, Nat.zero_add, List.all, Bool.and_self, Int.reduceToNat, List.reduceReplicate, List.flatten_cons, List.flatten_nil, eq_self, permD, List.getD_cons_zero, List.getD_cons_succ, sIx21, List.take_succ_cons, List.take_zero, Nat.reduceLeDiff, and_self, decide_true, decide_false, Bool.not_true, Bool.not_false]
    refine ⟨bl_ok _, bl_ok _, rest_go ?_⟩
    exact fin
theorem h43 (m : Nat) (ns : List Int) (hl : ns.length ≤ 63) : wpC fs cs (m + 9) 43 [.scr ns] [] fun d _ => d = .bl true := by
  refine wpC_step (f := f43) rfl rfl ?_
  simp only [f43, ↓w_for, ↓w_lc, b_add, b_addT, b_addL, b_sub, b_mul, b_mulL, b_mulT, b_fdiv, b_mod, b_pow, c_lt, c_le, c_gt, c_ge, c_eq, c_ne, c_eqS, c_neS, c_eq_tup, c_ne_tup, c_eq_lst, c_ne_lst, c_eq_bl, c_ne_bl, c_inT, c_ninT, i_int, i_intB, i_abs, i_dm, i_len_tup, i_len_lst, i_len_scr, i_max, i_min, i_gcd, i_isqrt, i_tuple1_tup, i_tuple1_lst, i_list1_tup, i_list1_lst, i_all, i_any, i_sum, i_repr_tup, i_repr_lst, i_repr_bl, i_repr_int, y_bl, y_int, y_str, y_tup, y_lst, y_non, it_tup, it_lst, it_scr, t_bl, t_int, t_tup, t_lst, t_non, w_cons, w_nil, wpS, wpE, wpEs, wpG, wpGs, wpI, wpT, startD, nb_fr, view_fr, it_fr, nb_int, nb_tup, nb_bl, nb_str, nb_lst, nb_scr, nb_non, nb_cell, nbs, g_name, g_tup, gsets, wipeD, noOw, itOk, view_int, view_tup, view_bl, view_str, view_lst, view_scr, view_non, at0, at1, at2, at3, ix0, ix1, ix2, tgN, List.map_cons, List.map_nil, List.append_nil, List.nil_append, List.cons_append, List.length_cons, List.length_nil, List.replicate_zero, List.replicate_succ, List.getElem?_cons_zero, List.getElem?_cons_succ, List.set_cons_zero, List.set_cons_succ, List.all_cons, List.all_nil, Bool.and_true, Bool.true_and, Nat.sub_self, Nat.add_sub_cancel_left, zeroNat, if_true, reduceCtorEq, true_and, and_true, ite_true, ite_false, Bool.false_eq_true, if_false, Nat.reduceAdd, Nat.reduceSub, Nat.reduceLT, Nat.zero_add, List.all, Bool.and_self, Int.reduceToNat, List.reduceReplicate, List.flatten_cons, List.flatten_nil, eq_self, permD, List.getD_cons_zero, List.getD_cons_succ, sIx21, List.take_succ_cons, List.take_zero, Nat.reduceLeDiff, and_self, decide_true, decide_false, Bool.not_true, Bool.not_false]
  generalize hT : (if (if (3 : Int) < ns.length then (3 : Int) else ns.length) > 2 then (if (3 : Int) < ns.length then (3 : Int) else ns.length) else 2) = T
  have hT1 : 0 ≤ T ∧ T ≤ 3 := by
    rw [← hT]
    split
    · split <;> omega
    · omega
  refine ⟨by omega, ?_⟩
  refine forL_rest (P := fun r σ W' => (∀ x ∈ r, ∃ k : Nat, k < 64 ∧ x = .int k) ∧ ∃ z : SV, σ = [.sh (.scr ns), z]) ?_ ?_ _ _ _ ⟨?_, _, rfl⟩
  · rintro x r σ W' e ⟨hr, z, rfl⟩ en ec er eb
    obtain ⟨t, ht, rfl⟩ := hr x List.mem_cons_self
    simp only [forB, ↓w_for, ↓w_lc, b_add, b_addT, b_addL, b_sub, b_mul, b_mulL, b_mulT, b_fdiv, b_mod, b_pow, c_lt, c_le, c_gt, c_ge, c_eq, c_ne, c_eqS, c_neS, c_eq_tup, c_ne_tup, c_eq_lst, c_ne_lst, c_eq_bl, c_ne_bl, c_inT, c_ninT, i_int, i_intB, i_abs, i_dm, i_len_tup, i_len_lst, i_len_scr, i_max, i_min, i_gcd, i_isqrt, i_tuple1_tup, i_tuple1_lst, i_list1_tup, i_list1_lst, i_all, i_any, i_sum, i_repr_tup, i_repr_lst, i_repr_bl, i_repr_int, y_bl, y_int, y_str, y_tup, y_lst, y_non, it_tup, it_lst, it_scr, t_bl, t_int, t_tup, t_lst, t_non, w_cons, w_nil, wpS, wpE, wpEs, wpG, wpGs, wpI, wpT, startD, nb_fr, view_fr, it_fr, nb_int, nb_tup, nb_bl, nb_str, nb_lst, nb_scr, nb_non, nb_cell, nbs, g_name, g_tup, gsets, wipeD, noOw, itOk, view_int, view_tup, view_bl, view_str, view_lst, view_scr, view_non, at0, at1, at2, at3, ix0, ix1, ix2, tgN, List.map_cons, List.map_nil, List.append_nil, List.nil_append, List.cons_append, List.length_cons, List.length_nil, List.replicate_zero, List.replicate_succ, List.getElem?_cons_zero, List.getElem?_cons_succ, List.set_cons_zero, List.set_cons_succ, List.all_cons, List.all_nil, Bool.and_true, Bool.true_and, Nat.sub_self, Nat.add_sub_cancel_left, zeroNat, if_true, reduceCtorEq, true_and, and_true, ite_true, ite_false, Bool.false_eq_true, if_false, Nat.reduceAdd, Nat.reduceSub, Nat.reduceLT, Nat.zero_add, List.all, Bool.and_self, Int.reduceToNat, List.reduceReplicate, List.flatten_cons, List.flatten_nil, eq_self, permD, List.getD_cons_zero, List.getD_cons_succ, sIx21, List.take_succ_cons, List.take_zero, Nat.reduceLeDiff, and_self, decide_true, decide_false, Bool.not_true, Bool.not_false]
    refine h20 (m + 7) ns t W' _ ht (fun k W1 hw => ?_)
    simp only [↓w_for, ↓w_lc, b_add, b_addT, b_addL, b_sub, b_mul, b_mulL, b_mulT, b_fdiv, b_mod, b_pow, c_lt, c_le, c_gt, c_ge, c_eq, c_ne, c_eqS, c_neS, c_eq_tup, c_ne_tup, c_eq_lst, c_ne_lst, c_eq_bl, c_ne_bl, c_inT, c_ninT, i_int, i_intB, i_abs, i_dm, i_len_tup, i_len_lst, i_len_scr, i_max, i_min, i_gcd, i_isqrt, i_tuple1_tup, i_tuple1_lst, i_list1_tup, i_list1_lst, i_all, i_any, i_sum, i_repr_tup, i_repr_lst, i_repr_bl, i_repr_int, y_bl, y_int, y_str, y_tup, y_lst, y_non, it_tup, it_lst, it_scr, t_bl, t_int, t_tup, t_lst, t_non, w_cons, w_nil, wpS, wpE, wpEs, wpG, wpGs, wpI, wpT, startD, nb_fr, view_fr, it_fr, nb_int, nb_tup, nb_bl, nb_str, nb_lst, nb_scr, nb_non, nb_cell, nbs, g_name, g_tup, gsets, wipeD, noOw, itOk, view_int, view_tup, view_bl, view_str, view_lst, view_scr, view_non, at0, at1, at2, at3, ix0, ix1, ix2, tgN, List.map_cons, List.map_nil, List.append_nil, List.nil_append, List.cons_append, List.length_cons, List.length_nil, List.replicate_zero, List.replicate_succ, List.getElem?_cons_zero, List.getElem?_cons_succ, List.set_cons_zero, List.set_cons_succ, List.all_cons, List.all_nil, Bool.and_true, Bool.true_and, Nat.sub_self, Nat.add_sub_cancel_left, zeroNat, if_true, reduceCtorEq, true_and, and_true, ite_true, ite_false, Bool.false_eq_true, if_false, Nat.reduceAdd, Nat.reduceSub, Nat.reduceLT, Nat.zero_add, List.all, Bool.and_self, Int.reduceToNat, List.reduceReplicate, List.flatten_cons, List.flatten_nil, eq_self, permD, List.getD_cons_zero, List.getD_cons_succ, sIx21, List.take_succ_cons, List.take_zero, Nat.reduceLeDiff, and_self, decide_true, decide_false, Bool.not_true, Bool.not_false]
    refine h42 m k 0 W1 _ (hw.less (by decide)) (fun W2 => ?_)
    simp only [↓w_for, ↓w_lc, b_add, b_addT, b_addL, b_sub, b_mul, b_mulL, b_mulT, b_fdiv, b_mod, b_pow, c_lt, c_le, c_gt, c_ge, c_eq, c_ne, c_eqS, c_neS, c_eq_tup, c_ne_tup, c_eq_lst, c_ne_lst, c_eq_bl, c_ne_bl, c_inT, c_ninT, i_int, i_intB, i_abs, i_dm, i_len_tup, i_len_lst, i_len_scr, i_max, i_min, i_gcd, i_isqrt, i_tuple1_tup, i_tuple1_lst, i_list1_tup, i_list1_lst, i_all, i_any, i_sum, i_repr_tup, i_repr_lst, i_repr_bl, i_repr_int, y_bl, y_int, y_str, y_tup, y_lst, y_non, it_tup, it_lst, it_scr, t_bl, t_int, t_tup, t_lst, t_non, w_cons, w_nil, wpS, wpE, wpEs, wpG, wpGs, wpI, wpT, startD, nb_fr, view_fr, it_fr, nb_int, nb_tup, nb_bl, nb_str, nb_lst, nb_scr, nb_non, nb_cell, nbs, g_name, g_tup, gsets, wipeD, noOw, itOk, view_int, view_tup, view_bl, view_str, view_lst, view_scr, view_non, at0, at1, at2, at3, ix0, ix1, ix2, tgN, List.map_cons, List.map_nil, List.append_nil, List.nil_append, List.cons_append, List.length_cons, List.length_nil, List.replicate_zero, List.replicate_succ, List.getElem?_cons_zero, List.getElem?_cons_succ, List.set_cons_zero, List.set_cons_succ, List.all_cons, List.all_nil, Bool.and_true, Bool.true_and, Nat.sub_self, Nat.add_sub_cancel_left, zeroNat, if_true, reduceCtorEq, true_and, and_true, ite_true, ite_false, Bool.false_eq_true, if_false, Nat.reduceAdd, Nat.reduceSub, Nat.reduceLT, Nat.zero_add, List.all, Bool.and_self, Int.reduceToNat, List.reduceReplicate, List.flatten_cons, List.flatten_nil, eq_self, permD, List.getD_cons_zero, List.getD_cons_succ, sIx21, List.take_succ_cons, List.take_zero, Nat.reduceLeDiff, and_self, decide_true, decide_false, Bool.not_true, Bool.not_false]
    refine rest_go ?_
    simp only [↓w_for, ↓w_lc, b_add, b_addT, b_addL, b_sub, b_mul, b_mulL, b_mulT, b_fdiv, b_mod, b_pow, c_lt, c_le, c_gt, c_ge, c_eq, c_ne, c_eqS, c_neS, c_eq_tup, c_ne_tup, c_eq_lst, c_ne_lst, c_eq_bl, c_ne_bl, c_inT, c_ninT, i_int, i_intB, i_abs, i_dm, i_len_tup, i_len_lst, i_len_scr, i_max, i_min, i_gcd, i_isqrt, i_tuple1_tup, i_tuple1_lst, i_list1_tup, i_list1_lst, i_all, i_any, i_sum, i_repr_tup, i_repr_lst, i_repr_bl, i_repr_int, y_bl, y_int, y_str, y_tup, y_lst, y_non, it_tup, it_lst, it_scr, t_bl, t_int, t_tup, t_lst, t_non, w_cons, w_nil, wpS, wpE, wpEs, wpG, wpGs, wpI, wpT, startD, nb_fr, view_fr, it_fr, nb_int, nb_tup, nb_bl, nb_str, nb_lst, nb_scr, nb_non, nb_cell, nbs, g_name, g_tup, gsets, wipeD, noOw, itOk, view_int, view_tup, view_bl, view_str, view_lst, view_scr, view_non, at0, at1, at2, at3, ix0, ix1, ix2, tgN, List.map_cons, List.map_nil, List.append_nil, List.nil_append, List.cons_append, List.length_cons, List.length_nil, List.replicate_zero, List.replicate_succ, List.getElem?_cons_zero, List.getElem?_cons_succ, List.set_cons_zero, List.set_cons_succ, List.all_cons, List.all_nil, Bool.and_true, Bool.true_and, Nat.sub_self, Nat.add_sub_cancel_left, zeroNat, if_true, reduceCtorEq, true_and, and_true, ite_true, ite_false, Bool.false_eq_true, if_false, Nat.reduceAdd, Nat.reduceSub, Nat.reduceLT, Nat.zero_add, List.all, Bool.and_self, Int.reduceToNat, List.reduceReplicate, List.flatten_cons, List.flatten_nil, eq_self, permD, List.getD_cons_zero, List.getD_cons_succ, sIx21, List.take_succ_cons, List.take_zero, Nat.reduceLeDiff, and_self, decide_true, decide_false, Bool.not_true, Bool.not_false]
    exact en _ _ ⟨fun z hz => hr z (List.mem_cons_of_mem _ hz), _, rfl⟩
  · rintro σ W' ⟨_, z, rfl⟩
    refine rest_go ?_
    simp only [↓w_for, ↓w_lc, b_add, b_addT, b_addL, b_sub, b_mul, b_mulL, b_mulT, b_fdiv, b_mod, b_pow, c_lt, c_le, c_gt, c_ge, c_eq, c_ne, c_eqS, c_neS, c_eq_tup, c_ne_tup, c_eq_lst, c_ne_lst, c_eq_bl, c_ne_bl, c_inT, c_ninT, i_int, i_intB, i_abs, i_dm, i_len_tup, i_len_lst, i_len_scr, i_max, i_min, i_gcd, i_isqrt, i_tuple1_tup, i_tuple1_lst, i_list1_tup, i_list1_lst, i_all, i_any, i_sum, i_repr_tup, i_repr_lst, i_repr_bl, i_repr_int, y_bl, y_int, y_str, y_tup, y_lst, y_non, it_tup, it_lst, it_scr, t_bl, t_int, t_tup, t_lst, t_non, w_cons, w_nil, wpS, wpE, wpEs, wpG, wpGs, wpI, wpT, startD, nb_fr, view_fr, it_fr, nb_int, nb_tup, nb_bl, nb_str, nb_lst, nb_scr, nb_non, nb_cell, nbs, g_name, g_tup, gsets, wipeD, noOw, itOk, view_int, view_tup, view_bl, view_str, view_lst, view_scr, view_non, at0, at1, at2, at3, ix0, ix1, ix2, tgN, List.map_cons, List.map_nil, List.append_nil, List.nil_append, List.cons_append, List.length_cons, List.length_nil, List.replicate_zero, List.replicate_succ, List.getElem?_cons_zero, List.getElem?_cons_succ, List.set_cons_zero, List.set_cons_succ, List.all_cons, List.all_nil, Bool.and_true, Bool.true_and, Nat.sub_self, Nat.add_sub_cancel_left, zeroNat, if_true, reduceCtorEq, true_and, and_true, ite_true, ite_false, Bool.false_eq_true, if_false, Nat.reduceAdd, Nat.reduceSub, Nat.reduceLT, Nat.zero_add, List.all, Bool.and_self, Int.reduceToNat, List.reduceReplicate, List.flatten_cons, List.flatten_nil, eq_self, permD, List.getD_cons_zero, List.getD_cons_succ, sIx21, List.take_succ_cons, List.take_zero, Nat.reduceLeDiff, and_self, decide_true, decide_false, Bool.not_true, Bool.not_false]
  · intro x hx
    unfold rngD at hx
    obtain ⟨k, hk, rfl⟩ := List.mem_map.mp hx
    have := List.mem_range.mp hk
    exact ⟨k, by omega, by rw [Int.zero_add]⟩
def deep : Nat := 9
theorem pure : ∀ ns : List Int, ns.length ≤ 63 → wpC fs cs deep 43 [.scr ns] [] fun d _ => d = .bl true := fun ns h => h43 0 ns h
end K20

open PySem PySem.W PySem.Calls PyProof.Rows in
set_option maxHeartbeats 0 in
theorem PySem.Challenge.cw_bringnear_k20_whole_discs_sums_multiples_holds : PySem.Challenge.rw_bringnear_k20_whole_discs_sums_multiples.Holds := by
  w_on; o_law
  refine HandSHeadRun.head_imp (r := OpenLaw.row PySem.Challenge.rw_bringnear_k20_whole_discs_sums_multiples) (q := view (OpenLaw.row PySem.Challenge.rw_bringnear_k20_whole_discs_sums_multiples).prog [0, 54]) (H := K20.hk) (ob := K20.ob) (M := 20000) (loose := K20.loose) (d := HandSHeadRun.topDef (OpenLaw.row PySem.Challenge.rw_bringnear_k20_whole_discs_sums_multiples).prog 54) (kwd := []) K20.ob_eq
    K20.run (by kernel_rfl) (by kernel_rfl) (by kernel_rfl) (by rfl) (by first | assumption | decide +kernel) (by decide +kernel) ⟨rfl, rfl, rfl, rfl, rfl, by decide +kernel⟩ ?hw ?hc
  case hw => w_witness2
  case hc => exact Bn.law_walk (l := PySem.Challenge.rw_bringnear_k20_whole_discs_sums_multiples) (n := 63) (k := K20.deep) (i := 43) (x := "_law_script") rfl (by decide) (by kernel_rfl) ⟨rfl, by decide, by decide⟩ K20.specs (by kernel_rfl) K20.pure

