import PyProof.Rows.All
import Wide.All
import OpenK.AllK
import Wide.FinOn
import HandS.ForMost
import HandS.Wide
import HandS.WideBits
import HandS.TupAny
import HandS.TupMul
import HandS.Deep
import HandS.Style
import HandS.Conv
import KE.DataMinMax
import HandS.WideMore
import PySem.Challenge.RW_numberguild_k40_whole_equations_of_pell
set_option Elab.async false
set_option linter.all false
set_option maxRecDepth 1000000
/-! ## Ev1 -/
/-! A small functional semantics (evaluator) of the pure part of Python: values are PyData; local lists are owned by their slots. -/
namespace Ev
open PySem PySem.Spec PyProof.Rows L2

abbrev D := PyData
/-- how a value came: borrowed from a slot that owns it, stable, fresh -/
inductive Kd where | B | S | F
  deriving DecidableEq, Repr
structure R where
  k : Kd
  d : D
/-- a slot: unset, a stable value, an owned list, the tape -/
inductive Sl where | un | im (d : D) | ow (ds : List D) | tp
structure Tp where
  cells : List Int
  pos : Nat
  cur : Int
  seed : Int
abbrev Rho := List Sl

inductive Bo where | add | sub | mul | fdiv | mod | pow
  deriving DecidableEq, Repr
inductive Co where | eq | ne | lt | le | gt | ge | isin | notin
  deriving DecidableEq, Repr
inductive Bl where | len | abs | min | max | int | tuple | list | sum | any | all | sorted | bitlen
  deriving DecidableEq, Repr
/-- targets -/
inductive Tg where | nm (i : Nat) | tu (ts : List Nat)
  deriving DecidableEq, Repr

inductive E where
  | cst (d : D)
  | var (i : Nat)
  | bin (op : Bo) (a b : E)
  | neg (a : E)
  | cmp (op : Co) (a b : E)
  | chn (o1 o2 : Co) (a b c : E)
  | isN (a : E)
  | notN (a : E)
  | isB (a b : E)
  | notB (a b : E)
  | con (a b : E)
  | dis (a b : E)
  | inv (a : E)
  | ite (c a b : E)
  | tup (es : List E)
  | lst (es : List E)
  | idx (a b : E)
  | slc (a lo hi : E)
  | slcL (a lo : E)
  | slcH (a hi : E)
  | slcA (a : E)
  | rev (a : E)
  | call (n : Nat) (es : List E)
  | callT (n : Nat) (i : Nat) (es : List E)
  | blt (b : Bl) (es : List E)
  | comp (elt : E) (tg : Tg) (k : Nat) (its : List E) (cond : List E)

inductive S where
  | set (tg : Tg) (e : E)
  | par2 (i j : Nat) (a b : E)
  | par3 (i j l : Nat) (a b c : E)
  | aug (i : Nat) (op : Bo) (e : E)
  | app (i : Nat) (e : E)
  | ext (i : Nat) (e : E)
  | pop (i : Nat)
  | sti (i : Nat) (ix e : E)
  | ret (e : E)
  | retv (i : Nat)
  | retn
  | ite (c : E) (a b : List S)
  | whl (c : E) (b : List S)
  | for_ (tg : Tg) (k : Nat) (its : List E) (b : List S)
  | forv (tg : Tg) (i : Nat) (b : List S)
  | brk
  | cnt
  | pas
  | exp (e : E)
  | nev

/-! ### operations on data -/
def intOf : D → Option Int
  | .int i => some i
  | _ => none
def intsOf : List D → Option (List Int)
  | [] => some []
  | .int i :: r => (intsOf r).map (i :: ·)
  | _ => none
def boolsOf : List D → Option (List Bool)
  | [] => some []
  | .bool b :: r => (boolsOf r).map (b :: ·)
  | _ => none
def nonD : D → Bool
  | .none => true
  | _ => false
def scalD : D → Bool
  | .none => true
  | .bool _ => true
  | .int _ => true
  | .str _ => true
  | _ => false
mutual
/-- no list within -/
def noList : D → Bool
  | .list _ => false
  | .dict _ => false
  | .tuple ds => noListAll ds
  | _ => true
def noListAll : List D → Bool
  | [] => true
  | d :: r => noList d && noListAll r
end
/-- a def's answer as the caller may take it -/
def clean : R → Bool
  | ⟨.S, d⟩ => noList d
  | ⟨.F, .list ds⟩ => noListAll ds
  | _ => false
/-- two factors of together less than a million bits -/
def mulFits (i j : Int) : Bool := decide (i.natAbs.log2 + j.natAbs.log2 < 1000000)
def divFits (j : Int) : Bool := decide (j ≠ 0) && decide (j.natAbs.log2 < 9000)
def powFits (i j : Int) : Bool := decide (0 ≤ j) && decide (j ≤ 1000000) && decide (i.natAbs < 2 ^ 64)
def shortL (ds : List D) : Bool := decide (ds.length < 16777216)
def binD : Bo → D → D → Option R
  | .add, .int i, .int j => some ⟨.S, .int (i + j)⟩
  | .sub, .int i, .int j => some ⟨.S, .int (i - j)⟩
  | .mul, .int i, .int j => if mulFits i j then some ⟨.S, .int (i * j)⟩ else none
  | .fdiv, .int i, .int j => if divFits j then some ⟨.S, .int (i.fdiv j)⟩ else none
  | .mod, .int i, .int j => if j ≠ 0 then some ⟨.S, .int (i.fmod j)⟩ else none
  | .pow, .int i, .int j => if powFits i j then some ⟨.S, .int (i ^ j.toNat)⟩ else none
  | .add, .tuple xs, .tuple ys => if shortL (xs ++ ys) then some ⟨.S, .tuple (xs ++ ys)⟩ else none
  | .add, .list xs, .list ys => if shortL (xs ++ ys) then some ⟨.F, .list (xs ++ ys)⟩ else none
  | .mul, .list xs, .int k => if decide (-(2 ^ 63) ≤ k) && decide (k < 2 ^ 63) && decide (xs.length * k.toNat < 16777216) then some ⟨.F, .list (List.replicate k.toNat xs).flatten⟩ else none
  | .mul, .tuple xs, .int k => if decide (2 ≤ k) && decide (k ≤ 1000) && decide (xs.length ≤ 1000) && !xs.isEmpty then some ⟨.S, .tuple (List.replicate k.toNat xs).flatten⟩ else none
  | _, _, _ => none
def cmpD : Co → D → D → Option Bool
  | .lt, .int i, .int j => some (decide (i < j))
  | .le, .int i, .int j => some (decide (i ≤ j))
  | .gt, .int i, .int j => some (decide (j < i))
  | .ge, .int i, .int j => some (decide (j ≤ i))
  | .eq, .int i, .int j => some (decide (i = j))
  | .ne, .int i, .int j => some (!decide (i = j))
  | .eq, .bool i, .bool j => some (i == j)
  | .ne, .bool i, .bool j => some (!(i == j))
  | .eq, d, e => if SeqAt.shaped d && SeqAt.shaped e then some (PyData.eqv d e) else none
  | .ne, d, e => if SeqAt.shaped d && SeqAt.shaped e then some (!PyData.eqv d e) else none
  | .isin, .int i, .tuple ds => (intsOf ds).map fun ns => ns.any (fun n => decide (n = i))
  | .notin, .int i, .tuple ds => (intsOf ds).map fun ns => !ns.any (fun n => decide (n = i))
  | .isin, d, .list ds => if SeqAt.shaped d && SeqAt.shaped (.list ds) then some (ds.any fun z => PyData.eqv z d) else none
  | .notin, d, .list ds => if SeqAt.shaped d && SeqAt.shaped (.list ds) then some (!ds.any fun z => PyData.eqv z d) else none
  | _, _, _ => none
def atD (ds : List D) (i : Int) : Option D := atI ds i
def cutD (ds : List D) (lo hi : Option Int) : List D := (ds.drop (HT.sIx ds.length 0 lo)).take (HT.sIx ds.length ds.length hi - HT.sIx ds.length 0 lo)
def idxD : D → D → Option R
  | .tuple ds, .int i => (atD ds i).map fun d => ⟨.S, d⟩
  | .list ds, .int i => (atD ds i).map fun d => ⟨.S, d⟩
  | _, _ => none
def slcD (d : D) (lo hi : Option Int) : Option R :=
  match d with
  | .tuple ds => some ⟨.S, .tuple (cutD ds lo hi)⟩
  | .list ds => some ⟨.F, .list (cutD ds lo hi)⟩
  | _ => none
def revD : D → Option R
  | .list ds => some ⟨.F, .list ds.reverse⟩
  | _ => none
def maxL : List Int → Option Int
  | [] => none
  | x :: r => some (r.foldl max x)
def minL : List Int → Option Int
  | [] => none
  | x :: r => some (r.foldl min x)
def bltD : Bl → List D → Option R
  | .len, [.tuple ds] => some ⟨.S, .int ds.length⟩
  | .len, [.list ds] => some ⟨.S, .int ds.length⟩
  | .abs, [.int i] => some ⟨.S, .int (if i < 0 then -i else i)⟩
  | .min, [.int i, .int j] => some ⟨.S, .int (if j < i then j else i)⟩
  | .max, [.int i, .int j] => some ⟨.S, .int (if j > i then j else i)⟩
  | .max, [.list ds] => (intsOf ds).bind fun ns => (maxL ns).map fun m => ⟨.S, .int m⟩
  | .min, [.list ds] => (intsOf ds).bind fun ns => (minL ns).map fun m => ⟨.S, .int m⟩
  | .max, [.tuple ds] => (intsOf ds).bind fun ns => (maxL ns).map fun m => ⟨.S, .int m⟩
  | .min, [.tuple ds] => (intsOf ds).bind fun ns => (minL ns).map fun m => ⟨.S, .int m⟩
  | .int, [.int i] => some ⟨.S, .int i⟩
  | .int, [.bool b] => some ⟨.S, .int (if b then 1 else 0)⟩
  | .tuple, [.list ds] => some ⟨.S, .tuple ds⟩
  | .tuple, [.tuple ds] => some ⟨.S, .tuple ds⟩
  | .list, [.list ds] => some ⟨.F, .list ds⟩
  | .list, [.tuple ds] => some ⟨.F, .list ds⟩
  | .sum, [.list ds] => (intsOf ds).map fun ns => ⟨.S, .int ns.sum⟩
  | .any, [.list ds] => (boolsOf ds).map fun bs => ⟨.S, .bool (bs.any id)⟩
  | .all, [.list ds] => (boolsOf ds).map fun bs => ⟨.S, .bool (bs.all id)⟩
  | .bitlen, [.int i] => some ⟨.S, .int (Builtin.Int.intBits i : Nat)⟩
  | _, _ => none
/-- the ints of a range -/
def rngD (lo : Int) : Nat → List D
  | 0 => []
  | n + 1 => .int lo :: rngD (lo + 1) n
def rngFits (i j : Int) : Bool := decide (-(2 ^ 62) ≤ i) && decide (i < 2 ^ 62) && decide (-(2 ^ 62) ≤ j) && decide (j < 2 ^ 62)
/-- what a for walks: 1 range(a), 2 range(a, b), 0 a sequence -/
def itD : Nat → List D → Option (List D)
  | 0, [.tuple ds] => some ds
  | 0, [.list ds] => some ds
  | 1, [.int j] => if rngFits 0 j then some (rngD 0 j.toNat) else none
  | 2, [.int i, .int j] => if rngFits i j then some (rngD i (j - i).toNat) else none
  | _, _ => none
def setsD (ρ : Rho) : List Nat → List D → Option Rho
  | [], [] => some ρ
  | i :: is, d :: ds => setsD (ρ.set i (.im d)) is ds
  | _, _ => none
def tgD (ρ : Rho) : Tg → D → Option Rho
  | .nm i, d => some (ρ.set i (.im d))
  | .tu is, .tuple ds => setsD ρ is ds
  | _, _ => none
def tgVs : Tg → List Nat
  | .nm i => [i]
  | .tu is => is
def wipeR (ρ : Rho) : List Nat → Rho
  | [] => ρ
  | v :: vs => (wipeR ρ vs).set v .un
/-- an answer that is put into another thing must not be borrowed -/
def stb (r : R) : Option D := match r.k with
  | .B => none
  | _ => some r.d

/-! ### expressions -/
def compL (fe : Rho → Tp → Option (R × Tp)) (fc : Rho → Tp → Option (Bool × Tp)) (ρ : Rho) (tg : Tg) : List D → Tp → Option (List D × Tp)
  | [], τ => some ([], τ)
  | d :: ds, τ => (tgD ρ tg d).bind fun ρ1 => (fc ρ1 τ).bind fun c =>
      if c.1 then (fe ρ1 c.2).bind fun x => (stb x.1).bind fun v => (compL fe fc ρ tg ds x.2).map fun y => (v :: y.1, y.2)
      else compL fe fc ρ tg ds c.2
section
variable (Φ : Nat → List D → Option R) (Ψ : Nat → List D → Tp → Option (R × Tp))
mutual
def ev (ρ : Rho) (τ : Tp) : E → Option (R × Tp)
  | .cst d => some (⟨.S, d⟩, τ)
  | .var i => match ρ[i]? with
    | some (.im d) => some (⟨.S, d⟩, τ)
    | some (.ow ds) => some (⟨.B, .list ds⟩, τ)
    | _ => none
  | .bin op a b => (ev ρ τ a).bind fun x => (ev ρ x.2 b).bind fun y => (binD op x.1.d y.1.d).map fun r => (r, y.2)
  | .neg a => (ev ρ τ a).bind fun x => (intOf x.1.d).map fun i => (⟨.S, .int (-i)⟩, x.2)
  | .cmp op a b => (ev ρ τ a).bind fun x => (ev ρ x.2 b).bind fun y => (cmpD op x.1.d y.1.d).map fun r => (⟨.S, .bool r⟩, y.2)
  | .chn o1 o2 a b c => (ev ρ τ a).bind fun x => (ev ρ x.2 b).bind fun y => (cmpD o1 x.1.d y.1.d).bind fun k =>
      if k then (ev ρ y.2 c).bind fun z => (cmpD o2 y.1.d z.1.d).map fun r => (⟨.S, .bool r⟩, z.2) else some (⟨.S, .bool false⟩, y.2)
  | .isN a => (ev ρ τ a).map fun x => (⟨.S, .bool (nonD x.1.d)⟩, x.2)
  | .notN a => (ev ρ τ a).map fun x => (⟨.S, .bool (!nonD x.1.d)⟩, x.2)
  | .isB a b => (ev ρ τ a).bind fun x => (ev ρ x.2 b).bind fun y => match x.1.d, y.1.d with
    | .bool i, .bool j => some (⟨.S, .bool (i == j)⟩, y.2)
    | _, _ => none
  | .notB a b => (ev ρ τ a).bind fun x => (ev ρ x.2 b).bind fun y => match x.1.d, y.1.d with
    | .bool i, .bool j => some (⟨.S, .bool (!(i == j))⟩, y.2)
    | _, _ => none
  | .con a b => (ev ρ τ a).bind fun x => match x.1.d with
    | .bool true => (ev ρ x.2 b).bind fun y => match y.1.d with
      | .bool k => some (⟨.S, .bool k⟩, y.2)
      | _ => none
    | .bool false => some (⟨.S, .bool false⟩, x.2)
    | _ => none
  | .dis a b => (ev ρ τ a).bind fun x => match x.1.d with
    | .bool false => (ev ρ x.2 b).bind fun y => match y.1.d with
      | .bool k => some (⟨.S, .bool k⟩, y.2)
      | _ => none
    | .bool true => some (⟨.S, .bool true⟩, x.2)
    | _ => none
  | .inv a => (ev ρ τ a).bind fun x => match x.1.d with
    | .bool k => some (⟨.S, .bool (!k)⟩, x.2)
    | _ => none
  | .ite c a b => (ev ρ τ c).bind fun x => match x.1.d with
    | .bool true => ev ρ x.2 a
    | .bool false => ev ρ x.2 b
    | _ => none
  | .tup es => (evs ρ τ es).bind fun x => (x.1.mapM stb).bind fun ds => if shortL ds then some (⟨.S, .tuple ds⟩, x.2) else none
  | .lst es => (evs ρ τ es).bind fun x => (x.1.mapM stb).bind fun ds => if shortL ds then some (⟨.F, .list ds⟩, x.2) else none
  | .idx a b => (ev ρ τ a).bind fun x => (ev ρ x.2 b).bind fun y => (idxD x.1.d y.1.d).map fun r => (r, y.2)
  | .slc a lo hi => (ev ρ τ a).bind fun x => (ev ρ x.2 lo).bind fun y => (ev ρ y.2 hi).bind fun z =>
      (intOf y.1.d).bind fun i => (intOf z.1.d).bind fun j => (slcD x.1.d (some i) (some j)).map fun r => (r, z.2)
  | .slcL a lo => (ev ρ τ a).bind fun x => (ev ρ x.2 lo).bind fun y => (intOf y.1.d).bind fun i => (slcD x.1.d (some i) none).map fun r => (r, y.2)
  | .slcH a hi => (ev ρ τ a).bind fun x => (ev ρ x.2 hi).bind fun y => (intOf y.1.d).bind fun i => (slcD x.1.d none (some i)).map fun r => (r, y.2)
  | .slcA a => (ev ρ τ a).bind fun x => (slcD x.1.d none none).map fun r => (r, x.2)
  | .rev a => (ev ρ τ a).bind fun x => (revD x.1.d).map fun r => (r, x.2)
  | .call n es => (evs ρ τ es).bind fun x => (Φ n (x.1.map (·.d))).bind fun r => if clean r then some (r, x.2) else none
  | .callT n i es => match ρ[i]? with
    | some .tp => (evs ρ τ es).bind fun x => (Ψ n (x.1.map (·.d)) x.2).bind fun r => if clean r.1 then some r else none
    | _ => none
  | .blt b es => (evs ρ τ es).bind fun x => (bltD b (x.1.map (·.d))).map fun r => (r, x.2)
  | .comp elt tg k its cond => (evs ρ τ its).bind fun x => (itD k (x.1.map (·.d))).bind fun ds =>
      (compL (fun ρ τ => ev ρ τ elt) (fun ρ τ => evAll ρ τ cond) (wipeR ρ (tgVs tg)) tg ds x.2).bind fun y => if shortL y.1 then some (⟨.F, .list y.1⟩, y.2) else none
def evs (ρ : Rho) (τ : Tp) : List E → Option (List R × Tp)
  | [] => some ([], τ)
  | e :: es => (ev ρ τ e).bind fun x => (evs ρ x.2 es).map fun y => (x.1 :: y.1, y.2)
/-- tests, one after another -/
def evAll (ρ : Rho) (τ : Tp) : List E → Option (Bool × Tp)
  | [] => some (true, τ)
  | e :: es => (ev ρ τ e).bind fun x => match x.1.d with
    | .bool true => evAll ρ x.2 es
    | .bool false => some (false, x.2)
    | _ => none
end
end
end Ev

/-! ## Ev2 -/
namespace Ev
open PySem PySem.Spec PyProof.Rows L2

inductive Out where
  | nx (ρ : Rho) (τ : Tp)
  | bk (ρ : Rho) (τ : Tp)
  | ct (ρ : Rho) (τ : Tp)
  | rt (r : R) (τ : Tp)

/-- a slot takes an answer -/
def putR (ρ : Rho) (i : Nat) (r : R) : Option Rho := match r with
  | ⟨.S, d⟩ => some (ρ.set i (.im d))
  | ⟨.F, .list ds⟩ => some (ρ.set i (.ow ds))
  | _ => none
def putTg (ρ : Rho) : Tg → R → Option Rho
  | .nm i, r => putR ρ i r
  | .tu is, ⟨_, .tuple ds⟩ => setsD ρ is ds
  | _, _ => none
def augD : Bo → D → D → Option D
  | .add, .int i, .int j => some (.int (i + j))
  | .sub, .int i, .int j => some (.int (i - j))
  | .mul, .int i, .int j => if mulFits i j then some (.int (i * j)) else none
  | .fdiv, .int i, .int j => if divFits j && decide (0 < j) then some (.int (i.fdiv j)) else none
  | .mod, .int i, .int j => if decide (0 < j) then some (.int (i.fmod j)) else none
  | _, _, _ => none
def forL (f : Rho → Tp → Option Out) (tg : Tg) : List D → Rho → Tp → Option Out
  | [], ρ, τ => some (.nx ρ τ)
  | d :: ds, ρ, τ => (tgD ρ tg d).bind fun ρ1 => (f ρ1 τ).bind fun o => match o with
    | .nx ρ2 τ2 => forL f tg ds ρ2 τ2
    | .ct ρ2 τ2 => forL f tg ds ρ2 τ2
    | .bk ρ2 τ2 => some (.nx ρ2 τ2)
    | .rt r τ2 => some (.rt r τ2)
def whL (c : Rho → Tp → Option (R × Tp)) (f : Rho → Tp → Option Out) : Nat → Rho → Tp → Option Out
  | 0, _, _ => none
  | n + 1, ρ, τ => (c ρ τ).bind fun x => match x.1.d with
    | .bool true => (f ρ x.2).bind fun o => match o with
      | .nx ρ2 τ2 => whL c f n ρ2 τ2
      | .ct ρ2 τ2 => whL c f n ρ2 τ2
      | .bk ρ2 τ2 => some (.nx ρ2 τ2)
      | .rt r τ2 => some (.rt r τ2)
    | .bool false => some (.nx ρ x.2)
    | _ => none
section
variable (Φ : Nat → List D → Option R) (Ψ : Nat → List D → Tp → Option (R × Tp)) (N : Nat)
mutual
def evS (ρ : Rho) (τ : Tp) : S → Option Out
  | .set tg e => (ev Φ Ψ ρ τ e).bind fun x => (putTg ρ tg x.1).map fun ρ1 => .nx ρ1 x.2
  | .par2 i j a b => (ev Φ Ψ ρ τ a).bind fun x => (ev Φ Ψ ρ x.2 b).bind fun y =>
      (stb x.1).bind fun v => (stb y.1).map fun w => .nx ((ρ.set i (.im v)).set j (.im w)) y.2
  | .par3 i j l a b c => (ev Φ Ψ ρ τ a).bind fun x => (ev Φ Ψ ρ x.2 b).bind fun y => (ev Φ Ψ ρ y.2 c).bind fun z =>
      (stb x.1).bind fun v => (stb y.1).bind fun w => (stb z.1).map fun u => .nx (((ρ.set i (.im v)).set j (.im w)).set l (.im u)) z.2
  | .aug i op e => match ρ[i]? with
    | some (.im d) => (ev Φ Ψ ρ τ e).bind fun x => (augD op d x.1.d).map fun r => .nx (ρ.set i (.im r)) x.2
    | _ => none
  | .app i e => match ρ[i]? with
    | some (.ow ds) => (ev Φ Ψ ρ τ e).bind fun x => (stb x.1).bind fun d => if shortL ds then some (.nx (ρ.set i (.ow (ds ++ [d]))) x.2) else none
    | _ => none
  | .ext i e => match ρ[i]? with
    | some (.ow ds) => (ev Φ Ψ ρ τ e).bind fun x => match x.1.d with
      | .list es => if shortL (ds ++ es) then some (.nx (ρ.set i (.ow (ds ++ es))) x.2) else none
      | _ => none
    | _ => none
  | .pop i => match ρ[i]? with
    | some (.ow ds) => if ds.isEmpty then none else some (.nx (ρ.set i (.ow ds.dropLast)) τ)
    | _ => none
  | .sti i ix e => (ev Φ Ψ ρ τ e).bind fun x => (stb x.1).bind fun d => match ρ[i]? with
    | some (.ow ds) => (ev Φ Ψ ρ x.2 ix).bind fun y => (intOf y.1.d).bind fun k => (ixN ds.length k).map fun j => .nx (ρ.set i (.ow (ds.set j d))) y.2
    | _ => none
  | .ret e => (ev Φ Ψ ρ τ e).bind fun x => match x.1.k with
    | .B => none
    | _ => some (.rt x.1 x.2)
  | .retv i => match ρ[i]? with
    | some (.im d) => some (.rt ⟨.S, d⟩ τ)
    | some (.ow ds) => some (.rt ⟨.F, .list ds⟩ τ)
    | _ => none
  | .retn => some (.rt ⟨.S, .none⟩ τ)
  | .ite c a b => (ev Φ Ψ ρ τ c).bind fun x => match x.1.d with
    | .bool true => evSs ρ x.2 a
    | .bool false => evSs ρ x.2 b
    | _ => none
  | .whl c b => whL (fun ρ τ => ev Φ Ψ ρ τ c) (fun ρ τ => evSs ρ τ b) N ρ τ
  | .for_ tg k its b => (evs Φ Ψ ρ τ its).bind fun x => (itD k (x.1.map (·.d))).bind fun ds => if x.1.any (fun r => r.k == .B) then none else forL (fun ρ τ => evSs ρ τ b) tg ds ρ x.2
  | .forv tg i b => match ρ[i]? with
    | some (.ow ds) => forL (fun ρ τ => evSs ρ τ b) tg ds (ρ.set i (.im (.list ds))) τ
    | some (.im d) => (itD 0 [d]).bind fun ds => forL (fun ρ τ => evSs ρ τ b) tg ds ρ τ
    | _ => none
  | .brk => some (.bk ρ τ)
  | .cnt => some (.ct ρ τ)
  | .pas => some (.nx ρ τ)
  | .exp e => (ev Φ Ψ ρ τ e).map fun x => .nx ρ x.2
  | .nev => none
def evSs (ρ : Rho) (τ : Tp) : List S → Option Out
  | [] => some (.nx ρ τ)
  | s :: ss => (evS ρ τ s).bind fun o => match o with
    | .nx ρ1 τ1 => evSs ρ1 τ1 ss
    | o => some o
end
end

/-! ### what a value stands for -/
mutual
def Rp (K : PySem.W.Frag) (H : Hp) (v : V) : D → Prop
  | .none => v = .non
  | .bool b => v = .bl b
  | .int i => v = .int i
  | .str x => v = .str x
  | .list ds => ∃ p vs, v = .ref p ∧ H p = some (.lst vs) ∧ RpAll K H vs ds
  | .tuple ds => ∃ p vs, v = .ref p ∧ SqT K H p vs ∧ RpAll K H vs ds
  | .dict _ => False
def RpAll (K : PySem.W.Frag) (H : Hp) (vs : List V) : List D → Prop
  | [] => vs = []
  | d :: ds => ∃ x r, vs = x :: r ∧ Rp K H x d ∧ RpAll K H r ds
end
section
variable {K : PySem.W.Frag} {S S' H H' : Hp}
theorem Same.seqT {a : Addr} {xs : List V} (e : Same H H') (h : SqT K H a xs) : SqT K H' a xs := by
  rcases h with (h | ⟨o, h⟩) | h
  · exact .inl (.inl (e _ _ h))
  · exact .inl (.inr ⟨o, e _ _ h⟩)
  · exact .inr h
mutual
theorem Rp.mono (e : Same H H') : ∀ (d : D) {v : V}, Rp K H v d → Rp K H' v d
  | .none, _, h => h
  | .bool _, _, h => h
  | .int _, _, h => h
  | .str _, _, h => h
  | .list ds, _, ⟨p, vs, e1, e2, e3⟩ => ⟨p, vs, e1, e _ _ e2, RpAll.mono e ds e3⟩
  | .tuple ds, _, ⟨p, vs, e1, e2, e3⟩ => ⟨p, vs, e1, Same.seqT e e2, RpAll.mono e ds e3⟩
  | .dict _, _, h => h
theorem RpAll.mono (e : Same H H') : ∀ (ds : List D) {vs : List V}, RpAll K H vs ds → RpAll K H' vs ds
  | [], _, h => h
  | d :: ds, _, ⟨x, r, e1, e2, e3⟩ => ⟨x, r, e1, Rp.mono e d e2, RpAll.mono e ds e3⟩
end
mutual
theorem Rp.dp : ∀ (d : D) {v : V}, Rp K H v d → Dp K H v d
  | .none, _, h => by cases h; exact .non
  | .bool _, _, h => by cases h; exact .bl _
  | .int _, _, h => by cases h; exact .int _
  | .str _, _, h => by cases h; exact .str _
  | .list ds, _, ⟨p, vs, e1, e2, e3⟩ => by subst e1; exact .lst (SqL.of e2) (RpAll.dp ds e3)
  | .tuple ds, _, ⟨p, vs, e1, e2, e3⟩ => by subst e1; exact .tup e2 (RpAll.dp ds e3)
  | .dict _, _, h => h.elim
theorem RpAll.dp : ∀ (ds : List D) {vs : List V}, RpAll K H vs ds → DpAll K H vs ds
  | [], _, h => by cases h; exact .nil
  | d :: ds, _, ⟨x, r, e1, e2, e3⟩ => by subst e1; exact .cons (Rp.dp d e2) (RpAll.dp ds e3)
end
theorem RpAll.length : ∀ {ds : List D} {vs : List V}, RpAll K H vs ds → vs.length = ds.length
  | [], _, h => by cases h; rfl
  | d :: ds, _, ⟨x, r, e1, e2, e3⟩ => by subst e1; simp [RpAll.length e3]
theorem RpAll.append : ∀ {ds es : List D} {vs ws : List V}, RpAll K H vs ds → RpAll K H ws es → RpAll K H (vs ++ ws) (ds ++ es)
  | [], _, _, _, h, g => by cases h; exact g
  | d :: ds, _, _, _, ⟨x, r, e1, e2, e3⟩, g => by subst e1; exact ⟨x, r ++ _, rfl, e2, RpAll.append e3 g⟩
theorem RpAll.split : ∀ {ds es : List D} {vs : List V}, RpAll K H vs (ds ++ es) → ∃ v1 v2, vs = v1 ++ v2 ∧ RpAll K H v1 ds ∧ RpAll K H v2 es
  | [], _, vs, h => ⟨[], vs, rfl, rfl, h⟩
  | d :: ds, _, _, ⟨x, r, e1, e2, e3⟩ => by
    obtain ⟨v1, v2, f1, f2, f3⟩ := RpAll.split e3
    exact ⟨x :: v1, v2, by rw [e1, f1]; rfl, ⟨x, v1, rfl, e2, f2⟩, f3⟩
theorem RpAll.get : ∀ {ds : List D} {vs : List V} {i : Nat} {d : D}, RpAll K H vs ds → ds[i]? = some d → ∃ v, vs[i]? = some v ∧ Rp K H v d
  | [], _, _, _, _, e => by simp at e
  | d :: ds, _, 0, _, ⟨x, r, e1, e2, e3⟩, e => by
    simp at e
    subst e e1
    exact ⟨x, rfl, e2⟩
  | d :: ds, _, i + 1, _, ⟨x, r, e1, e2, e3⟩, e => by
    subst e1
    obtain ⟨v, h1, h2⟩ := RpAll.get (i := i) e3 (by simpa using e)
    exact ⟨v, by simpa using h1, h2⟩
theorem RpAll.drop : ∀ {ds : List D} {vs : List V} (n : Nat), RpAll K H vs ds → RpAll K H (vs.drop n) (ds.drop n)
  | ds, vs, 0, h => by simpa using h
  | [], _, n + 1, h => by cases h; exact rfl
  | d :: ds, _, n + 1, ⟨x, r, e1, e2, e3⟩ => by subst e1; exact RpAll.drop n e3
theorem RpAll.take : ∀ {ds : List D} {vs : List V} (n : Nat), RpAll K H vs ds → RpAll K H (vs.take n) (ds.take n)
  | ds, vs, 0, h => by simp [RpAll]
  | [], _, n + 1, h => by cases h; exact rfl
  | d :: ds, _, n + 1, ⟨x, r, e1, e2, e3⟩ => by subst e1; exact ⟨x, _, rfl, e2, RpAll.take n e3⟩
theorem RpAll.set : ∀ {ds : List D} {vs : List V} {d : D} {v : V} (j : Nat), RpAll K H vs ds → Rp K H v d → RpAll K H (vs.set j v) (ds.set j d)
  | [], _, _, _, _, h, _ => by cases h; exact rfl
  | d :: ds, _, _, _, 0, ⟨x, r, e1, e2, e3⟩, g => by subst e1; exact ⟨_, r, rfl, g, e3⟩
  | d :: ds, _, _, _, j + 1, ⟨x, r, e1, e2, e3⟩, g => by subst e1; exact ⟨x, _, rfl, e2, RpAll.set j e3 g⟩
theorem RpAll.reverse : ∀ {ds : List D} {vs : List V}, RpAll K H vs ds → RpAll K H vs.reverse ds.reverse
  | [], _, h => by cases h; exact rfl
  | d :: ds, _, ⟨x, r, e1, e2, e3⟩ => by
    subst e1
    rw [List.reverse_cons, List.reverse_cons]
    exact RpAll.append (RpAll.reverse e3) ⟨x, [], rfl, e2, rfl⟩
theorem RpAll.rep {ds : List D} {vs : List V} (h : RpAll K H vs ds) : ∀ k : Nat, RpAll K H (List.replicate k vs).flatten (List.replicate k ds).flatten
  | 0 => rfl
  | k + 1 => by
    rw [List.replicate_succ, List.replicate_succ, List.flatten_cons, List.flatten_cons]
    exact RpAll.append h (RpAll.rep h k)
theorem RpAll.ints : ∀ {ds : List D} {ns : List Int} {vs : List V}, intsOf ds = some ns → RpAll K H vs ds → vs = ns.map V.int
  | [], ns, _, e, h => by
    cases h
    simp [intsOf] at e
    subst e
    rfl
  | d :: ds, ns, _, e, ⟨x, r, e1, e2, e3⟩ => by
    cases d <;> simp [intsOf] at e
    obtain ⟨ms, f1, f2⟩ := e
    subst f2 e1
    have e4 : x = V.int _ := e2
    rw [e4, RpAll.ints f1 e3]
    rfl
theorem RpAll.bools : ∀ {ds : List D} {ns : List Bool} {vs : List V}, boolsOf ds = some ns → RpAll K H vs ds → vs = ns.map V.bl
  | [], ns, _, e, h => by
    cases h
    simp [boolsOf] at e
    subst e
    rfl
  | d :: ds, ns, _, e, ⟨x, r, e1, e2, e3⟩ => by
    cases d <;> simp [boolsOf] at e
    obtain ⟨ms, f1, f2⟩ := e
    subst f2 e1
    have e4 : x = V.bl _ := e2
    rw [e4, RpAll.bools f1 e3]
    rfl
end
end Ev

/-! ## Ev3 -/
namespace Ev
open PySem PySem.Spec PyProof.Rows L2

/-- where the tape (the law's d) stands, and its cells -/
structure Ta where
  a : Option Addr
  b : Addr
def TapeAt (K : PySem.W.Frag) (S H : Hp) (a b : Addr) (τ : Tp) : Prop :=
  S a = none ∧ H a = some (.lst [.ref b, .int (τ.pos : Int), .int τ.cur, .int τ.seed]) ∧ SqL K S b (τ.cells.map V.int)
def TpOk (K : PySem.W.Frag) (ta : Ta) (S H : Hp) (τ : Tp) : Prop := ∀ a, ta.a = some a → TapeAt K S H a ta.b τ
/-- one step of the heap: S its stable part -/
structure Stp (K : PySem.W.Frag) (ta : Ta) (τ : Tp) (S H S' H' : Hp) : Prop where
  same : Same S S'
  sub : Same S' H'
  gro : ∀ b o, ta.a ≠ some b → H b = some o → H' b = some o
  nn : ∀ b xs, ta.a ≠ some b → H b = some (.lst xs) → S b = none → S' b = none
  tape : TpOk K ta S' H' τ
def SlOk (K : PySem.W.Frag) (ta : Ta) (S H : Hp) (w : Option V) : Sl → Prop
  | .un => True
  | .im d => ∃ v, w = some v ∧ Rp K S v d
  | .ow ds => ∃ p vs, w = some (.ref p) ∧ H p = some (.lst vs) ∧ S p = none ∧ RpAll K S vs ds ∧ ta.a ≠ some p
  | .tp => ∃ a, ta.a = some a ∧ w = some (.ref a)
structure Rel (K : PySem.W.Frag) (ta : Ta) (ρ : Rho) (S : Hp) (σ : L2.St) (H : Hp) : Prop where
  len : ρ.length = σ.length
  sub : Same S H
  slot : ∀ (i : Nat) (s : Sl), ρ[i]? = some s → SlOk K ta S H (σ[i]?.getD none) s
  dist : ∀ (i j : Nat) (di dj : List D) (p : Addr), ρ[i]? = some (.ow di) → ρ[j]? = some (.ow dj) → σ[i]? = some (some (.ref p)) → σ[j]? = some (some (.ref p)) → i = j
/-- an answer's value: at the end's stable part, heap; H the heap at the start -/
def RV (K : PySem.W.Frag) (ta : Ta) (S' H' H : Hp) (v : V) (r : R) : Prop := match r.k with
  | .S => Rp K S' v r.d
  | .F => ∃ p ds vs, r.d = .list ds ∧ v = .ref p ∧ H' p = some (.lst vs) ∧ S' p = none ∧ H p = none ∧ RpAll K S' vs ds
  | .B => ∃ p ds vs, r.d = .list ds ∧ v = .ref p ∧ H' p = some (.lst vs) ∧ RpAll K S' vs ds ∧ ta.a ≠ some p
/-- the same where a fresh list has been made stable -/
def UV (K : PySem.W.Frag) (ta : Ta) (S' H' : Hp) (v : V) (r : R) : Prop := match r.k with
  | .B => ∃ p ds vs, r.d = .list ds ∧ v = .ref p ∧ H' p = some (.lst vs) ∧ RpAll K S' vs ds ∧ ta.a ≠ some p
  | _ => Rp K S' v r.d
def UVs (K : PySem.W.Frag) (ta : Ta) (S' H' : Hp) : List V → List R → Prop
  | [], [] => True
  | v :: vs, r :: rs => UV K ta S' H' v r ∧ UVs K ta S' H' vs rs
  | _, _ => False

section
variable {K : PySem.W.Frag} {ta : Ta} {τ τ1 τ2 : Tp} {S S1 S2 H H1 H2 : Hp} {ρ : Rho} {σ : L2.St} {v : V} {r : R}

theorem Stp.refl (h1 : Same S H) (t : TpOk K ta S H τ) : Stp K ta τ S H S H := ⟨Same.refl _, h1, fun _ _ _ h => h, fun _ _ _ _ h => h, t⟩
theorem Stp.trans (a : Stp K ta τ1 S H S1 H1) (b : Stp K ta τ2 S1 H1 S2 H2) : Stp K ta τ2 S H S2 H2 :=
  ⟨a.same.trans b.same, b.sub, fun c o n h => b.gro c o n (a.gro c o n h), fun c xs n h z => b.nn c xs n (a.gro c _ n h) (a.nn c xs n h z), b.tape⟩
/-- a free place was free at the start -/
theorem Stp.free (a : Stp K ta τ S H S1 H1) {p : Addr} (n : H1 p = none) : H p = none := by
  cases q : H p with
  | none => rfl
  | some o =>
    by_cases e : ta.a = some p
    · obtain ⟨_, h, _⟩ := a.tape p e
      rw [n] at h; cases h
    · have := a.gro p o e q
      rw [n] at this; cases this
theorem Stp.free' (a : Stp K ta τ S H S1 H1) {p : Addr} (n : H1 p = none) : S1 p = none := by
  cases q : S1 p with
  | none => rfl
  | some o => have := a.sub _ _ q; rw [n] at this; cases this
theorem Stp.nta (a : Stp K ta τ S H S1 H1) {p : Addr} (n : H1 p = none) : ta.a ≠ some p := fun e => by
  obtain ⟨_, h, _⟩ := a.tape p e
  rw [n] at h; cases h
theorem same_upd {S : Hp} {p : Addr} {o : HO} (h : S p = none) : Same S (upd S p o) := fun b x e => by
  rw [upd_ne (ne_of_none e h)]; exact e
theorem upd_sub {p : Addr} {o : HO} (s : Same S H) : Same (upd S p o) (upd H p o) := fun b x e => by
  by_cases h : b = p
  · subst h; rw [upd_same] at e ⊢; exact e
  · rw [upd_ne h] at e ⊢; exact s _ _ e
theorem TapeAt.mono {a b : Addr} (t : TapeAt K S H a b τ) (s : Same S S1) (n : S1 a = none) (h : H1 a = H a) : TapeAt K S1 H1 a b τ := by
  obtain ⟨_, e, q⟩ := t
  exact ⟨n, by rw [h]; exact e, s.seq q⟩
/-- a new stable object -/
theorem Stp.newS {p : Addr} {o : HO} (a : Stp K ta τ S H S1 H1) (n : H1 p = none) (nl : ∀ xs, o = .lst xs → True) : Stp K ta τ S H (upd S1 p o) (upd H1 p o) := by
  have n1 := a.free' n
  refine ⟨a.same.trans (same_upd n1), upd_sub a.sub, fun b x nt e => ?_, fun b xs nt e z => ?_, fun b e => ?_⟩
  · have := a.gro b x nt e
    rw [upd_ne (ne_of_none this n)]; exact this
  · have := a.gro b _ nt e
    rw [upd_ne (ne_of_none this n)]; exact a.nn b xs nt e z
  · have nb : b ≠ p := fun q => a.nta n (q ▸ e)
    exact (a.tape b e).mono (same_upd n1) (by rw [upd_ne nb]; exact (a.tape b e).1) (upd_ne nb)
/-- a new list that no one holds -/
theorem Stp.newL {p : Addr} {o : HO} (a : Stp K ta τ S H S1 H1) (n : H1 p = none) : Stp K ta τ S H S1 (upd H1 p o) := by
  refine ⟨a.same, fun b x e => ?_, fun b x nt e => ?_, a.nn, fun b e => ?_⟩
  · have := a.sub b x e
    rw [upd_ne (ne_of_none this n)]; exact this
  · have := a.gro b x nt e
    rw [upd_ne (ne_of_none this n)]; exact this
  · have nb : b ≠ p := fun q => a.nta n (q ▸ e)
    exact (a.tape b e).mono (Same.refl _) (a.tape b e).1 (upd_ne nb)
/-- a fresh list is made stable -/
theorem Stp.freeze {p : Addr} {vs : List V} (a : Stp K ta τ S H S1 H1) (h : H1 p = some (.lst vs)) (n : S1 p = none) (n0 : H p = none) (nt : ta.a ≠ some p) : Stp K ta τ S H (upd S1 p (.lst vs)) H1 := by
  refine ⟨a.same.trans (same_upd n), fun b x e => ?_, a.gro, fun b xs nt e z => ?_, fun b e => ?_⟩
  · by_cases hb : b = p
    · subst hb; rw [upd_same] at e; cases e; exact h
    · rw [upd_ne hb] at e; exact a.sub _ _ e
  · rw [upd_ne (ne_of_none e n0)]; exact a.nn b xs nt e z
  · have nb : b ≠ p := fun q => nt (q ▸ e)
    exact (a.tape b e).mono (same_upd n) (by rw [upd_ne nb]; exact (a.tape b e).1) rfl
theorem Stp.ntaF (a : Stp K ta τ S H S1 H1) {p : Addr} {τ0 : Tp} (t : TpOk K ta S H τ0) (n0 : H p = none) : ta.a ≠ some p := fun e => by
  obtain ⟨_, h, _⟩ := t p e
  rw [n0] at h; cases h
theorem Rel.step (R : Rel K ta ρ S σ H) (a : Stp K ta τ S H S1 H1) : Rel K ta ρ S1 σ H1 := by
  refine ⟨R.len, a.sub, fun i s e => ?_, R.dist⟩
  have h := R.slot i s e
  cases s with
  | un => trivial
  | im d => obtain ⟨v, e1, e2⟩ := h; exact ⟨v, e1, Rp.mono a.same d e2⟩
  | ow ds => obtain ⟨p, vs, e1, e2, e3, e4, e5⟩ := h; exact ⟨p, vs, e1, a.gro _ _ e5 e2, a.nn _ _ e5 e2 e3, RpAll.mono a.same ds e4, e5⟩
  | tp => exact h
theorem RV.uv {τ0 : Tp} (t : TpOk K ta S H τ0) (a : Stp K ta τ S H S1 H1) (h : RV K ta S1 H1 H v r) : ∃ S2, Stp K ta τ S H S2 H1 ∧ UV K ta S2 H1 v r := by
  obtain ⟨k, d⟩ := r
  cases k with
  | S => exact ⟨S1, a, h⟩
  | B => exact ⟨S1, a, h⟩
  | F =>
    obtain ⟨p, ds, vs, e1, e2, e3, e4, e5, e6⟩ := h
    refine ⟨upd S1 p (.lst vs), a.freeze e3 e4 e5 (a.ntaF t e5), ?_⟩
    have e1' : d = .list ds := e1
    subst e1'
    exact ⟨p, vs, e2, upd_same, RpAll.mono (same_upd e4) ds e6⟩
theorem UV.mono (h : UV K ta S1 H1 v r) (a : Stp K ta τ S1 H1 S2 H2) : UV K ta S2 H2 v r := by
  obtain ⟨k, d⟩ := r
  cases k with
  | S => exact Rp.mono a.same d h
  | F => exact Rp.mono a.same d h
  | B =>
    obtain ⟨p, ds, vs, e1, e2, e3, e4, e5⟩ := h
    exact ⟨p, ds, vs, e1, e2, a.gro _ _ e5 e3, RpAll.mono a.same ds e4, e5⟩
theorem UVs.mono (a : Stp K ta τ S1 H1 S2 H2) : ∀ {vs : List V} {rs : List R}, UVs K ta S1 H1 vs rs → UVs K ta S2 H2 vs rs
  | [], [], _ => trivial
  | v :: vs, r :: rs, ⟨h1, h2⟩ => ⟨h1.mono a, UVs.mono a h2⟩
  | [], _ :: _, h => h.elim
  | _ :: _, [], h => h.elim
/-- it is readable in the heap -/
theorem UV.rp (h : UV K ta S1 H1 v r) (s : Same S1 H1) : Rp K H1 v r.d := by
  obtain ⟨k, d⟩ := r
  cases k with
  | S => exact Rp.mono s d h
  | F => exact Rp.mono s d h
  | B =>
    obtain ⟨p, ds, vs, e1, e2, e3, e4, e5⟩ := h
    have e1' : d = .list ds := e1
    subst e1'
    exact ⟨p, vs, e2, e3, RpAll.mono s ds e4⟩
/-- what is no list is stable -/
theorem UV.st (h : UV K ta S1 H1 v r) (hs : stb r = some d) : Rp K S1 v d := by
  obtain ⟨k, d'⟩ := r
  cases k with
  | S => cases hs; exact h
  | F => cases hs; exact h
  | B => cases hs
/-- a list's items are stable -/
theorem UV.lst {ds : List D} (h : UV K ta S1 H1 v r) (s : Same S1 H1) (e : r.d = .list ds) : ∃ p vs, v = .ref p ∧ H1 p = some (.lst vs) ∧ RpAll K S1 vs ds := by
  obtain ⟨k, d⟩ := r
  have e' : d = .list ds := e
  subst e'
  cases k with
  | S => obtain ⟨p, vs, e1, e2, e3⟩ := h; exact ⟨p, vs, e1, s _ _ e2, e3⟩
  | F => obtain ⟨p, vs, e1, e2, e3⟩ := h; exact ⟨p, vs, e1, s _ _ e2, e3⟩
  | B =>
    obtain ⟨p, ds', vs, e1, e2, e3, e4, e5⟩ := h
    cases e1
    exact ⟨p, vs, e2, e3, e4⟩
theorem UV.nl (h : UV K ta S1 H1 v r) (e : ∀ ds, r.d ≠ .list ds) : Rp K S1 v r.d := by
  obtain ⟨k, d⟩ := r
  cases k with
  | S => exact h
  | F => exact h
  | B =>
    obtain ⟨p, ds', vs, e1, _⟩ := h
    exact absurd e1 (e _)
theorem UV.int {i : Int} (h : UV K ta S1 H1 v r) (e : r.d = .int i) : v = .int i := by
  have q := h.nl (fun ds z => by rw [e] at z; cases z)
  rw [e] at q
  exact q
theorem UV.bool {i : Bool} (h : UV K ta S1 H1 v r) (e : r.d = .bool i) : v = .bl i := by
  have q := h.nl (fun ds z => by rw [e] at z; cases z)
  rw [e] at q
  exact q
theorem UV.tup {ds : List D} (h : UV K ta S1 H1 v r) (e : r.d = .tuple ds) : ∃ p vs, v = .ref p ∧ SqT K S1 p vs ∧ RpAll K S1 vs ds := by
  have q := h.nl (fun ds z => by rw [e] at z; cases z)
  rw [e] at q
  exact q
theorem UVs.length : ∀ {vs : List V} {rs : List R}, UVs K ta S1 H1 vs rs → vs.length = rs.length
  | [], [], _ => rfl
  | v :: vs, r :: rs, ⟨_, h2⟩ => by simp [UVs.length h2]
  | [], _ :: _, h => h.elim
  | _ :: _, [], h => h.elim
theorem UVs.rp (s : Same S1 H1) : ∀ {vs : List V} {rs : List R}, UVs K ta S1 H1 vs rs → RpAll K H1 vs (rs.map (·.d))
  | [], [], _ => rfl
  | v :: vs, r :: rs, ⟨h1, h2⟩ => ⟨v, vs, rfl, h1.rp s, UVs.rp s h2⟩
  | [], _ :: _, h => h.elim
  | _ :: _, [], h => h.elim
theorem UVs.st : ∀ {vs : List V} {rs : List R} {ds : List D}, UVs K ta S1 H1 vs rs → rs.mapM stb = some ds → RpAll K S1 vs ds
  | [], [], ds, _, e => by
    have e' : ds = [] := by simpa using e.symm
    subst e'
    rfl
  | v :: vs, r :: rs, ds, ⟨h1, h2⟩, e => by
    rw [List.mapM_cons] at e
    cases q : stb r with
    | none => rw [q] at e; cases e
    | some d =>
      rw [q] at e
      cases q2 : rs.mapM stb with
      | none => rw [q2] at e; cases e
      | some es =>
        rw [q2] at e
        have e' : d :: es = ds := Option.some.inj e
        subst e'
        exact ⟨v, vs, rfl, h1.st q, UVs.st h2 q2⟩
  | [], _ :: _, _, h, _ => h.elim
  | _ :: _, [], _, h, _ => h.elim
end

/-! ### readings -/
section
variable (K : PySem.W.Frag) (ta : Ta) (Φ : Nat → List D → Option R) (Ψ : Nat → List D → Tp → Option (R × Tp)) (N : Nat)
def tE (c : E) : TE := fun σ H Q => ∃ S ρ τ r τ', Rel K ta ρ S σ H ∧ TpOk K ta S H τ ∧ ev Φ Ψ ρ τ c = some (r, τ') ∧ ∀ v S' H', Stp K ta τ' S H S' H' → RV K ta S' H' H v r → Q v H'
def tU (c : E) : TE := fun σ H Q => ∃ S ρ τ r τ', Rel K ta ρ S σ H ∧ TpOk K ta S H τ ∧ ev Φ Ψ ρ τ c = some (r, τ') ∧ ∀ v S' H', Stp K ta τ' S H S' H' → UV K ta S' H' v r → Q v H'
def tT (c : E) : TT := fun σ H Q => ∃ S ρ τ r τ' b, Rel K ta ρ S σ H ∧ TpOk K ta S H τ ∧ ev Φ Ψ ρ τ c = some (r, τ') ∧ r.d = .bool b ∧ ∀ S' H', Stp K ta τ' S H S' H' → Q b H'
def tAs (cs : List E) : TA := fun σ H Q => ∃ S ρ τ rs τ', Rel K ta ρ S σ H ∧ TpOk K ta S H τ ∧ evs Φ Ψ ρ τ cs = some (rs, τ') ∧ ∀ vs S' H', Stp K ta τ' S H S' H' → UVs K ta S' H' vs rs → Q vs H'
end
section
variable {X : Cx} {K : PySem.W.Frag} {ta : Ta} {Φ : Nat → List D → Option R} {Ψ : Nat → List D → Tp → Option (R × Tp)} {e a b c : Expr} {ca cb cc : E}
theorem PE.weak {t t' : TE} (h : PE X e t) (w : ∀ σ H Q, t' σ H Q → t σ H Q) : PE X e t' := ⟨fun pins s σ H Q I q => h.run pins s σ H Q I (w _ _ _ q)⟩
theorem PT.weak {t t' : TT} (h : PT X e t) (w : ∀ σ H Q, t' σ H Q → t σ H Q) : PT X e t' := ⟨fun pins s σ H Q I q => h.run pins s σ H Q I (w _ _ _ q)⟩
theorem PW.weak {t t' : TT} (h : PW X e t) (w : ∀ σ H Q, t' σ H Q → t σ H Q) : PW X e t' := ⟨fun wh pins s σ H Q I q => h.run wh pins s σ H Q I (w _ _ _ q)⟩
theorem PA.weak {es : List Expr} {t t' : TA} (h : PA X es t) (w : ∀ σ H Q, t' σ H Q → t σ H Q) : PA X es t' := ⟨fun pos pins s σ H Q I q => h.run pos pins s σ H Q I (w _ _ _ q)⟩
theorem PS.weak {st : Stmt} {t t' : TS} (h : PS X st t) (w : ∀ D σ H, t' D σ H → t D σ H) : PS X st t' := ⟨fun pins s σ H D I q => h.run pins s σ H D I (w _ _ _ q)⟩
theorem PSs.weak {st : List Stmt} {t t' : TS} (h : PSs X st t) (w : ∀ D σ H, t' D σ H → t D σ H) : PSs X st t' := ⟨fun pins s σ H D I q => h.run pins s σ H D I (w _ _ _ q)⟩
theorem _root_.L2.PE.use (h : PE X e (tE K ta Φ Ψ ca)) : PE X e (tU K ta Φ Ψ ca) := PE.weak h fun σ H Q ⟨S, ρ, τ, r, τ', h1, h2, h3, h4⟩ =>
  ⟨S, ρ, τ, r, τ', h1, h2, h3, fun v S' H' st rv => by
    obtain ⟨S2, st2, uv⟩ := rv.uv h2 st
    exact h4 v S2 H' st2 uv⟩
end
end Ev

/-! ## Ev4 -/
namespace Ev
open PySem PySem.Spec PyProof.Rows L2

/-- what is wanted of an answer r -/
def Post (K : PySem.W.Frag) (ta : Ta) (S H : Hp) (τ : Tp) (r : R) (Q : VK) : Prop := ∀ v S' H', Stp K ta τ S H S' H' → RV K ta S' H' H v r → Q v H'
section
variable {K : PySem.W.Frag} {ta : Ta} {τ τ1 τ2 : Tp} {S S1 S2 H H1 H2 : Hp} {ρ : Rho} {σ : L2.St} {v : V} {r : R} {Q : VK}
theorem RV.back {S' H' : Hp} (a : Stp K ta τ S H S1 H1) (h : RV K ta S' H' H1 v r) : RV K ta S' H' H v r := by
  obtain ⟨k, d⟩ := r
  cases k with
  | S => exact h
  | B => exact h
  | F =>
    obtain ⟨p, ds, vs, e1, e2, e3, e4, e5, e6⟩ := h
    exact ⟨p, ds, vs, e1, e2, e3, e4, a.free e5, e6⟩
theorem Post.later (p : Post K ta S H τ2 r Q) (a : Stp K ta τ1 S H S1 H1) : Post K ta S1 H1 τ2 r Q := fun v S' H' st rv => p v S' H' (a.trans st) (rv.back a)
theorem Post.here {d : D} (p : Post K ta S H τ ⟨.S, d⟩ Q) (s : Same S H) (t : TpOk K ta S H τ) (h : Rp K S v d) : Q v H := p v S H (Stp.refl s t) h
theorem Post.tup {zs : List V} {ds : List D} (p : Post K ta S H τ ⟨.S, .tuple ds⟩ Q) (s : Same S H) (t : TpOk K ta S H τ) (h : RpAll K S zs ds) {q : Addr} (n : H q = none) : Q (.ref q) (upd H q (.tup zs)) := by
  have st := Stp.refl s t
  have n1 := st.free' n
  exact p _ _ _ (st.newS n fun _ _ => trivial) ⟨q, zs, rfl, SqT.of upd_same, RpAll.mono (same_upd n1) ds h⟩
theorem Post.lst {zs : List V} {ds : List D} (p : Post K ta S H τ ⟨.F, .list ds⟩ Q) (s : Same S H) (t : TpOk K ta S H τ) (h : RpAll K S zs ds) {q : Addr} (n : H q = none) : Q (.ref q) (upd H q (.lst zs)) := by
  have st := Stp.refl s t
  exact p _ _ _ (st.newL n) ⟨q, ds, zs, rfl, rfl, upd_same, st.free' n, n, h⟩
end

/-! ### operators -/
def boO : Bo → Operator
  | .add => .Add | .sub => .Sub | .mul => .Mult | .fdiv => .FloorDiv | .mod => .Mod | .pow => .Pow
def coO : Co → CmpOp
  | .eq => .Eq | .ne => .NotEq | .lt => .Lt | .le => .LtE | .gt => .Gt | .ge => .GtE | .isin => .In | .notin => .NotIn
/-- two answers' values and what is wanted of the result -/
def rTwo (K : PySem.W.Frag) (ta : Ta) (f : D → D → Option R) : R2 := fun x y H Q => ∃ S τ r1 r2 r, Same S H ∧ TpOk K ta S H τ ∧ UV K ta S H x r1 ∧ UV K ta S H y r2 ∧ f r1.d r2.d = some r ∧ Post K ta S H τ r Q
section
variable {X : Cx} {ta : Ta}
theorem len_of {n : Nat} (h : n < 16777216) : n ≤ sizeLine := by rw [sizeLine_eq]; omega
theorem lt_of {n : Nat} (h : n < 16777216) : n < sizeLine := by rw [sizeLine_eq]; omega
theorem op_fdivG : OpR X (binaryOp .FloorDiv) (rI (fun _ j => j ≠ 0 ∧ j.natAbs.log2 < 9000) fun i j => .int (i.fdiv j)) := opI fun _ _ _ _ _ _ _ hc q => floordiv_int hc.1 q (.inl (PyProof.noPylong_of_log2 hc.2))
theorem bo_run (op : Bo) : OpR X (binaryOp (boO op)) (rTwo X.K ta (binD op)) := by
  intro pins s σ H x y v u Q I rx ry ⟨S, τ, r1, r2, r, hs, ht, u1, u2, e, p⟩
  have isI : ∀ {i j : Int}, r1.d = .int i → r2.d = .int j → x = .int i ∧ y = .int j := fun e1 e2 => ⟨u1.int e1, u2.int e2⟩
  cases q1 : r1.d with
  | none => rw [q1] at e; cases op <;> simp [binD] at e
  | bool _ => rw [q1] at e; cases op <;> simp [binD] at e
  | str _ => rw [q1] at e; cases op <;> simp [binD] at e
  | dict _ => rw [q1] at e; cases op <;> simp [binD] at e
  | int i =>
    cases q2 : r2.d with
    | int j =>
      obtain ⟨rfl, rfl⟩ := isI q1 q2
      rw [q1, q2] at e
      cases op with
      | add => simp only [binD, Option.some.injEq] at e; subst e; exact op_add pins s σ H _ _ v u Q I rx ry ⟨i, j, rfl, rfl, p.here hs ht rfl⟩
      | sub => simp only [binD, Option.some.injEq] at e; subst e; exact op_sub pins s σ H _ _ v u Q I rx ry ⟨i, j, rfl, rfl, p.here hs ht rfl⟩
      | mul =>
        simp only [binD] at e
        by_cases hc : mulFits i j = true
        · rw [if_pos hc] at e
          cases e
          exact op_mulW pins s σ H _ _ v u Q I rx ry ⟨i, j, rfl, rfl, (show CMulW i j by unfold CMulW; unfold mulFits at hc; exact of_decide_eq_true hc), p.here hs ht rfl⟩
        · rw [if_neg hc] at e; cases e
      | fdiv =>
        simp only [binD, divFits, Bool.and_eq_true, decide_eq_true_eq] at e
        split at e
        · rename_i hc
          cases e
          exact op_fdivG pins s σ H _ _ v u Q I rx ry ⟨i, j, rfl, rfl, hc, p.here hs ht rfl⟩
        · cases e
      | mod =>
        simp only [binD] at e
        split at e
        · rename_i hc
          cases e
          exact op_modN pins s σ H _ _ v u Q I rx ry ⟨i, j, rfl, rfl, hc, p.here hs ht rfl⟩
        · cases e
      | pow =>
        simp only [binD, powFits, Bool.and_eq_true, decide_eq_true_eq] at e
        split at e
        · rename_i hc
          cases e
          exact op_pow pins s σ H _ _ v u Q I rx ry ⟨i, j, rfl, rfl, ⟨hc.1.1, hc.1.2, hc.2⟩, p.here hs ht rfl⟩
        · cases e
    | none => rw [q1, q2] at e; cases op <;> simp [binD] at e
    | bool _ => rw [q1, q2] at e; cases op <;> simp [binD] at e
    | str _ => rw [q1, q2] at e; cases op <;> simp [binD] at e
    | dict _ => rw [q1, q2] at e; cases op <;> simp [binD] at e
    | list _ => rw [q1, q2] at e; cases op <;> simp [binD] at e
    | tuple _ => rw [q1, q2] at e; cases op <;> simp [binD] at e
  | tuple xs =>
    obtain ⟨a, vs, rfl, hq, hall⟩ := u1.tup q1
    have hq' : SqT X.K H a vs := Same.seqT hs hq
    cases q2 : r2.d with
    | tuple ys =>
      rw [q1, q2] at e
      obtain ⟨b, ws, rfl, hq2, hall2⟩ := u2.tup q2
      have hq2' : SqT X.K H b ws := Same.seqT hs hq2
      cases op with
      | add =>
        simp only [binD, shortL, decide_eq_true_eq] at e
        split at e
        · rename_i hc
          cases e
          have l1 := hall.length
          have l2 := hall2.length
          refine op_catA pins s σ H _ _ v u Q I rx ry ⟨a, b, vs, ws, rfl, rfl, hq', hq2', len_of (by rw [List.length_append] at hc; omega), fun z => ?_, fun z z2 => ?_, fun z z2 q n => p.tup hs ht (hall.append hall2) n⟩
          · subst z
            have : xs = [] := List.eq_nil_of_length_eq_zero (by simpa using l1.symm)
            subst this
            exact p.here hs ht ⟨b, ws, rfl, hq2, hall2⟩
          · subst z2
            have : ys = [] := List.eq_nil_of_length_eq_zero (by simpa using l2.symm)
            subst this
            rw [List.append_nil] at p
            exact p.here hs ht ⟨a, vs, rfl, hq, hall⟩
        · cases e
      | sub => simp [binD] at e
      | mul => simp [binD] at e
      | fdiv => simp [binD] at e
      | mod => simp [binD] at e
      | pow => simp [binD] at e
    | int k =>
      rw [q1, q2] at e
      have ey := u2.int q2
      subst ey
      cases op with
      | mul =>
        simp only [binD] at e
        split at e
        · rename_i hc
          cases e
          simp only [Bool.and_eq_true, decide_eq_true_eq, Bool.not_eq_true'] at hc
          obtain ⟨⟨⟨h1, h2⟩, h3⟩, h4⟩ := hc
          have l1 := hall.length
          refine op_repT pins s σ H _ _ v u Q I rx ry ⟨a, k, vs, rfl, rfl, hq', ?_, h1, h2, by omega, fun q n => p.tup hs ht (hall.rep _) n⟩
          intro z
          subst z
          have : xs = [] := List.eq_nil_of_length_eq_zero (by simpa using l1.symm)
          subst this
          simp at h4
        · cases e
      | add => simp [binD] at e
      | sub => simp [binD] at e
      | fdiv => simp [binD] at e
      | mod => simp [binD] at e
      | pow => simp [binD] at e
    | none => rw [q1, q2] at e; cases op <;> simp [binD] at e
    | bool _ => rw [q1, q2] at e; cases op <;> simp [binD] at e
    | str _ => rw [q1, q2] at e; cases op <;> simp [binD] at e
    | dict _ => rw [q1, q2] at e; cases op <;> simp [binD] at e
    | list _ => rw [q1, q2] at e; cases op <;> simp [binD] at e
  | list xs =>
    obtain ⟨a, vs, rfl, hq, hall⟩ := u1.lst hs q1
    cases q2 : r2.d with
    | list ys =>
      rw [q1, q2] at e
      obtain ⟨b, ws, rfl, hq2, hall2⟩ := u2.lst hs q2
      cases op with
      | add =>
        simp only [binD, shortL, decide_eq_true_eq] at e
        split at e
        · rename_i hc
          cases e
          have l1 := hall.length
          have l2 := hall2.length
          exact op_cat pins s σ H _ _ v u Q I rx ry ⟨a, b, vs, ws, rfl, rfl, hq, hq2, len_of (by rw [List.length_append] at hc; omega), fun q n => p.lst hs ht (hall.append hall2) n⟩
        · cases e
      | sub => simp [binD] at e
      | mul => simp [binD] at e
      | fdiv => simp [binD] at e
      | mod => simp [binD] at e
      | pow => simp [binD] at e
    | int k =>
      rw [q1, q2] at e
      have ey := u2.int q2
      subst ey
      cases op with
      | mul =>
        simp only [binD] at e
        split at e
        · rename_i hc
          cases e
          simp only [Bool.and_eq_true, decide_eq_true_eq] at hc
          obtain ⟨⟨h1, h2⟩, h3⟩ := hc
          have l1 := hall.length
          exact op_rep pins s σ H _ _ v u Q I rx ry ⟨a, k, vs, rfl, rfl, hq, h1, h2, len_of (by rw [l1]; exact h3), fun q n => p.lst hs ht (hall.rep _) n⟩
        · cases e
      | add => simp [binD] at e
      | sub => simp [binD] at e
      | fdiv => simp [binD] at e
      | mod => simp [binD] at e
      | pow => simp [binD] at e
    | none => rw [q1, q2] at e; cases op <;> simp [binD] at e
    | bool _ => rw [q1, q2] at e; cases op <;> simp [binD] at e
    | str _ => rw [q1, q2] at e; cases op <;> simp [binD] at e
    | dict _ => rw [q1, q2] at e; cases op <;> simp [binD] at e
    | tuple _ => rw [q1, q2] at e; cases op <;> simp [binD] at e

theorem in_ints {i : Int} : ∀ ns : List Int, inV (.int i) (ns.map V.int) = ns.any (fun n => decide (n = i))
  | [] => rfl
  | n :: ns => by
    show (eqV (.int n) (.int i) || inV (.int i) (ns.map V.int)) = _
    rw [in_ints ns, List.any_cons]
    congr 1
theorem flat_ints (ns : List Int) : (ns.map V.int).all flatV = true := by
  rw [List.all_eq_true]
  intro v hv
  obtain ⟨n, _, rfl⟩ := List.mem_map.mp hv
  rfl
/-- an eq of data by its general rule -/
theorem eq_gen (hu : X.A.units + 80 < cLine) {pins : List (Addr × Obj)} {s : Shared} {σ : L2.St} {H S : Hp} {x y : V} {v u : Value} {Q : VK} {τ : Tp} {r1 r2 : R} {b : Bool} (I : Inv X pins σ H s) (rx : RelV x v) (ry : RelV y u)
    (hs : Same S H) (ht : TpOk X.K ta S H τ) (u1 : UV X.K ta S H x r1) (u2 : UV X.K ta S H y r2) (e : (if SeqAt.shaped r1.d && SeqAt.shaped r2.d then some (PyData.eqv r1.d r2.d) else none) = some b) (p : Post X.K ta S H τ ⟨.S, .bool b⟩ Q) :
    wpAny (model X.prog X.w) X.A (compareOp .Eq v u) (EP X pins σ Q) X.xe s := by
  split at e
  · rename_i hc
    cases e
    rw [Bool.and_eq_true] at hc
    exact op_eqD (by omega) pins s σ H x y v u Q I rx ry ⟨r1.d, r2.d, (u1.rp hs).dp, (u2.rp hs).dp, hc.1, hc.2, p.here hs ht rfl⟩
  · cases e
theorem ne_gen (hu : X.A.units + 80 < cLine) {pins : List (Addr × Obj)} {s : Shared} {σ : L2.St} {H S : Hp} {x y : V} {v u : Value} {Q : VK} {τ : Tp} {r1 r2 : R} {b : Bool} (I : Inv X pins σ H s) (rx : RelV x v) (ry : RelV y u)
    (hs : Same S H) (ht : TpOk X.K ta S H τ) (u1 : UV X.K ta S H x r1) (u2 : UV X.K ta S H y r2) (e : (if SeqAt.shaped r1.d && SeqAt.shaped r2.d then some (!PyData.eqv r1.d r2.d) else none) = some b) (p : Post X.K ta S H τ ⟨.S, .bool b⟩ Q) :
    wpAny (model X.prog X.w) X.A (compareOp .NotEq v u) (EP X pins σ Q) X.xe s := by
  split at e
  · rename_i hc
    cases e
    rw [Bool.and_eq_true] at hc
    exact op_neD (by omega) pins s σ H x y v u Q I rx ry ⟨r1.d, r2.d, (u1.rp hs).dp, (u2.rp hs).dp, hc.1, hc.2, p.here hs ht rfl⟩
  · cases e
def cmpR (op : Co) (d e : D) : Option R := (cmpD op d e).map fun b => ⟨.S, .bool b⟩
theorem cmpR_some {op : Co} {d e : D} {r : R} (h : cmpR op d e = some r) : ∃ b, cmpD op d e = some b ∧ r = ⟨.S, .bool b⟩ := by
  unfold cmpR at h
  cases q : cmpD op d e with
  | none => rw [q] at h; cases h
  | some b => rw [q] at h; cases h; exact ⟨b, rfl, rfl⟩
theorem ofDp {K : PySem.W.Frag} {H : Hp} {d : D} {v : V} (h : Rp K H v d) : Dp K H v d := Rp.dp d h
theorem co_run (hu : X.A.units + 80 < cLine) (op : Co) : OpR X (compareOp (coO op)) (rTwo X.K ta (cmpR op)) := by
  intro pins s σ H x y v u Q I rx ry ⟨S, τ, r1, r2, r, hs, ht, u1, u2, e0, p⟩
  obtain ⟨b, e, rfl⟩ := cmpR_some e0
  have isI : ∀ {i j : Int}, r1.d = .int i → r2.d = .int j → x = .int i ∧ y = .int j := fun e1 e2 => ⟨u1.int e1, u2.int e2⟩
  cases op with
  | lt =>
    cases q1 : r1.d <;> cases q2 : r2.d <;> rw [q1, q2] at e <;> simp [cmpD] at e
    obtain ⟨rfl, rfl⟩ := isI q1 q2
    subst e
    exact op_lt pins s σ H _ _ v u Q I rx ry ⟨_, _, rfl, rfl, p.here hs ht rfl⟩
  | le =>
    cases q1 : r1.d <;> cases q2 : r2.d <;> rw [q1, q2] at e <;> simp [cmpD] at e
    obtain ⟨rfl, rfl⟩ := isI q1 q2
    subst e
    exact op_le pins s σ H _ _ v u Q I rx ry ⟨_, _, rfl, rfl, p.here hs ht rfl⟩
  | gt =>
    cases q1 : r1.d <;> cases q2 : r2.d <;> rw [q1, q2] at e <;> simp [cmpD] at e
    obtain ⟨rfl, rfl⟩ := isI q1 q2
    subst e
    exact op_gt pins s σ H _ _ v u Q I rx ry ⟨_, _, rfl, rfl, p.here hs ht rfl⟩
  | ge =>
    cases q1 : r1.d <;> cases q2 : r2.d <;> rw [q1, q2] at e <;> simp [cmpD] at e
    obtain ⟨rfl, rfl⟩ := isI q1 q2
    subst e
    exact op_ge pins s σ H _ _ v u Q I rx ry ⟨_, _, rfl, rfl, p.here hs ht rfl⟩
  | eq =>
    by_cases hi : ∃ i j, r1.d = .int i ∧ r2.d = .int j
    · obtain ⟨i, j, q1, q2⟩ := hi
      obtain ⟨rfl, rfl⟩ := isI q1 q2
      rw [q1, q2] at e
      simp only [cmpD, Option.some.injEq] at e
      subst e
      refine op_eq pins s σ H _ _ v u Q I rx ry ⟨rfl, ?_⟩
      have e2 : decide (V.int i = V.int j) = decide (i = j) := by rw [dec_int, Bool.beq_eq_decide_eq]
      rw [e2]
      exact p.here hs ht rfl
    · by_cases hb : ∃ i j, r1.d = .bool i ∧ r2.d = .bool j
      · obtain ⟨i, j, q1, q2⟩ := hb
        have e1 := u1.bool q1
        have e2 := u2.bool q2
        subst e1 e2
        rw [q1, q2] at e
        simp only [cmpD, Option.some.injEq] at e
        subst e
        refine op_eq pins s σ H _ _ v u Q I rx ry ⟨rfl, ?_⟩
        rw [dec_bl]
        exact p.here hs ht rfl
      · refine eq_gen hu I rx ry hs ht u1 u2 ?_ p
        rw [← e]
        cases q1 : r1.d <;> cases q2 : r2.d <;> first
          | rfl
          | exact absurd ⟨_, _, q1, q2⟩ hi
          | exact absurd ⟨_, _, q1, q2⟩ hb
  | ne =>
    by_cases hi : ∃ i j, r1.d = .int i ∧ r2.d = .int j
    · obtain ⟨i, j, q1, q2⟩ := hi
      obtain ⟨rfl, rfl⟩ := isI q1 q2
      rw [q1, q2] at e
      simp only [cmpD, Option.some.injEq] at e
      subst e
      refine op_ne pins s σ H _ _ v u Q I rx ry ⟨rfl, ?_⟩
      have e2 : decide (V.int i = V.int j) = decide (i = j) := by rw [dec_int, Bool.beq_eq_decide_eq]
      rw [e2]
      exact p.here hs ht rfl
    · by_cases hb : ∃ i j, r1.d = .bool i ∧ r2.d = .bool j
      · obtain ⟨i, j, q1, q2⟩ := hb
        have e1 := u1.bool q1
        have e2 := u2.bool q2
        subst e1 e2
        rw [q1, q2] at e
        simp only [cmpD, Option.some.injEq] at e
        subst e
        refine op_ne pins s σ H _ _ v u Q I rx ry ⟨rfl, ?_⟩
        rw [dec_bl]
        exact p.here hs ht rfl
      · refine ne_gen hu I rx ry hs ht u1 u2 ?_ p
        rw [← e]
        cases q1 : r1.d <;> cases q2 : r2.d <;> first
          | rfl
          | exact absurd ⟨_, _, q1, q2⟩ hi
          | exact absurd ⟨_, _, q1, q2⟩ hb
  | isin =>
    cases q2 : r2.d with
    | tuple ds =>
      cases q1 : r1.d <;> rw [q1, q2] at e <;> simp [cmpD] at e
      rename_i i
      obtain ⟨ns, e1, e2⟩ := e
      obtain ⟨a, vs, rfl, hq, hall⟩ := u2.tup q2
      have ex := u1.int q1
      subst ex
      have ev := hall.ints e1
      subst ev
      refine op_in_seq pins s σ H _ _ v u Q I rx ry ⟨a, _, rfl, .inr (Same.seqT hs hq), rfl, flat_ints ns, ?_⟩
      show Q (.bl (inV (.int i) (ns.map V.int))) H
      rw [in_ints, e2]
      exact p.here hs ht rfl
    | list ds =>
      rw [q2] at e
      have e' : (if SeqAt.shaped r1.d && SeqAt.shaped (.list ds) then some (ds.any fun z => PyData.eqv z r1.d) else none) = some b := by
        rw [← e]; unfold cmpD; cases r1.d <;> rfl
      split at e'
      · rename_i hc
        cases e'
        rw [Bool.and_eq_true] at hc
        exact op_inD (by omega) pins s σ H x y v u Q I rx ry ⟨r1.d, ds, ofDp (u1.rp hs), by rw [← q2]; exact ofDp (u2.rp hs), hc.1, hc.2, p.here hs ht rfl⟩
      · cases e'
    | none => rw [q2] at e; cases q1 : r1.d <;> rw [q1] at e <;> simp [cmpD] at e
    | bool _ => rw [q2] at e; cases q1 : r1.d <;> rw [q1] at e <;> simp [cmpD] at e
    | str _ => rw [q2] at e; cases q1 : r1.d <;> rw [q1] at e <;> simp [cmpD] at e
    | int _ => rw [q2] at e; cases q1 : r1.d <;> rw [q1] at e <;> simp [cmpD] at e
    | dict _ => rw [q2] at e; cases q1 : r1.d <;> rw [q1] at e <;> simp [cmpD] at e
  | notin =>
    cases q2 : r2.d with
    | tuple ds =>
      cases q1 : r1.d <;> rw [q1, q2] at e <;> simp [cmpD] at e
      rename_i i
      obtain ⟨ns, e1, e2⟩ := e
      obtain ⟨a, vs, rfl, hq, hall⟩ := u2.tup q2
      have ex := u1.int q1
      subst ex
      have ev := hall.ints e1
      subst ev
      refine op_notIn_seq pins s σ H _ _ v u Q I rx ry ⟨a, _, rfl, .inr (Same.seqT hs hq), rfl, flat_ints ns, ?_⟩
      show Q (.bl (!inV (.int i) (ns.map V.int))) H
      rw [in_ints, e2, Bool.not_not]
      exact p.here hs ht rfl
    | list ds =>
      rw [q2] at e
      have e' : (if SeqAt.shaped r1.d && SeqAt.shaped (.list ds) then some (!ds.any fun z => PyData.eqv z r1.d) else none) = some b := by
        rw [← e]; unfold cmpD; cases r1.d <;> rfl
      split at e'
      · rename_i hc
        cases e'
        rw [Bool.and_eq_true] at hc
        exact op_notInD (by omega) pins s σ H x y v u Q I rx ry ⟨r1.d, ds, ofDp (u1.rp hs), by rw [← q2]; exact ofDp (u2.rp hs), hc.1, hc.2, p.here hs ht rfl⟩
      · cases e'
    | none => rw [q2] at e; cases q1 : r1.d <;> rw [q1] at e <;> simp [cmpD] at e
    | bool _ => rw [q2] at e; cases q1 : r1.d <;> rw [q1] at e <;> simp [cmpD] at e
    | str _ => rw [q2] at e; cases q1 : r1.d <;> rw [q1] at e <;> simp [cmpD] at e
    | int _ => rw [q2] at e; cases q1 : r1.d <;> rw [q1] at e <;> simp [cmpD] at e
    | dict _ => rw [q2] at e; cases q1 : r1.d <;> rw [q1] at e <;> simp [cmpD] at e
end
end Ev

/-! ## Ev5 -/
namespace Ev
open PySem PySem.Spec PyProof.Rows L2

/-! ### what a caller may use of a def, and what a def promises -/
def RetP (K : PySem.W.Frag) (H H' : Hp) (v : V) (r : R) : Prop := match r.k with
  | .F => ∃ p ds vs, r.d = .list ds ∧ v = .ref p ∧ H p = none ∧ H' p = some (.lst vs) ∧ RpAll K H' vs ds
  | _ => Rp K H' v r.d
def spP (K : PySem.W.Frag) (φ : List D → Option R) : Sp := fun vs H Q _ => ∃ ds r, RpAll K H vs ds ∧ φ ds = some r ∧ clean r = true ∧ ∀ v H', Same H H' → RetP K H H' v r → Q v H'
def del (H : Hp) (a : Addr) : Hp := fun b => if b = a then none else H b
theorem del_same {H : Hp} {a : Addr} : del H a a = none := if_pos rfl
theorem del_ne {H : Hp} {a b : Addr} (h : b ≠ a) : del H a b = H b := if_neg h
theorem del_sub {H : Hp} {a : Addr} : Same (del H a) H := fun b o e => by
  by_cases h : b = a
  · subst h; rw [del_same] at e; cases e
  · rw [del_ne h] at e; exact e
theorem del_upd {H : Hp} {a : Addr} {o : HO} : del (upd H a o) a = del H a := by
  funext b
  by_cases h : b = a
  · subst h; rw [del_same, del_same]
  · rw [del_ne h, del_ne h, upd_ne h]
theorem del_none {H : Hp} {a : Addr} (n : H a = none) : del H a = H := by
  funext b
  by_cases h : b = a
  · subst h; rw [del_same, n]
  · rw [del_ne h]
def spT (K : PySem.W.Frag) (ψ : List D → Tp → Option (R × Tp)) : Sp := fun vs H Q _ => ∃ a b vs' ds τ r τ', vs = .ref a :: vs' ∧ TapeAt K (del H a) H a b τ ∧ RpAll K (del H a) vs' ds ∧ ψ ds τ = some (r, τ') ∧ clean r = true ∧
  ∀ v H', Same (del H a) (del H' a) → TapeAt K (del H' a) H' a b τ' → RetP K (del H a) (del H' a) v r → Q v H'
section
variable {K : PySem.W.Frag} {ta : Ta} {τ τ1 τ2 : Tp} {S S1 S2 H H1 H2 H' : Hp} {ρ : Rho} {σ : L2.St} {v : V} {r : R} {Q : VK}
/-- the stable part behind a call -/
def aft (S H' : Hp) : Hp := fun b => match S b with
  | some o => some o
  | none => match H' b with
    | some (.tup xs) => some (.tup xs)
    | some (.frz o u) => some (.frz o u)
    | _ => none
theorem aft_same : Same S (aft S H') := fun b o e => by unfold aft; rw [e]
theorem aft_sub (h : ∀ b o, S b = some o → H' b = some o) : Same (aft S H') H' := fun b o e => by
  unfold aft at e
  split at e
  · rename_i q; cases e; exact h _ _ q
  · split at e
    · rename_i q; cases e; exact q
    · rename_i q; cases e; exact q
    · cases e
theorem aft_lst {b : Addr} {xs : List V} (n : S b = none) (e : H' b = some (.lst xs)) : aft S H' b = none := by unfold aft; rw [n, e]
theorem aft_tup {a : Addr} {xs : List V} (h : ∀ b o, S b = some o → H' b = some o) (q : SqT K H' a xs) : SqT K (aft S H') a xs := by
  rcases q with (q | ⟨o, q⟩) | q
  · refine .inl (.inl ?_)
    unfold aft
    cases z : S a with
    | some o => have := h _ _ z; rw [q] at this; cases this; rfl
    | none => rw [q]
  · refine .inl (.inr ⟨o, ?_⟩)
    unfold aft
    cases z : S a with
    | some o => have := h _ _ z; rw [q] at this; cases this; rfl
    | none => rw [q]
  · exact .inr q
mutual
theorem aft_rp (h : ∀ b o, S b = some o → H' b = some o) : ∀ (d : D) {v : V}, noList d = true → Rp K H' v d → Rp K (aft S H') v d
  | .none, _, _, q => q
  | .bool _, _, _, q => q
  | .int _, _, _, q => q
  | .str _, _, _, q => q
  | .list _, _, n, _ => by simp [noList] at n
  | .tuple ds, _, n, ⟨p, vs, e1, e2, e3⟩ => ⟨p, vs, e1, aft_tup h e2, aft_rpAll h ds (by simpa [noList] using n) e3⟩
  | .dict _, _, n, _ => by simp [noList] at n
theorem aft_rpAll (h : ∀ b o, S b = some o → H' b = some o) : ∀ (ds : List D) {vs : List V}, noListAll ds = true → RpAll K H' vs ds → RpAll K (aft S H') vs ds
  | [], _, _, q => q
  | d :: ds, _, n, ⟨x, r, e1, e2, e3⟩ => by
    simp only [noListAll, Bool.and_eq_true] at n
    exact ⟨x, r, e1, aft_rp h d n.1 e2, aft_rpAll h ds n.2 e3⟩
end
/-- behind a call -/
theorem after_call (s : Same S H) (t : TpOk K ta S H τ1) (g : ∀ b o, ta.a ≠ some b → H b = some o → H' b = some o) (t2 : ∀ a, ta.a = some a → H' a = some (.lst [.ref ta.b, .int (τ2.pos : Int), .int τ2.cur, .int τ2.seed]) ∧ τ2.cells = τ1.cells)
    (c : clean r = true) (hr : RetP K H H' v r) : ∃ S', Stp K ta τ2 S H S' H' ∧ RV K ta S' H' H v r := by
  have sub : ∀ b o, S b = some o → H' b = some o := fun b o e => g b o (fun z => by have := (t b z).1; rw [e] at this; cases this) (s _ _ e)
  refine ⟨aft S H', ⟨aft_same, aft_sub sub, g, fun b xs n e z => aft_lst z (g _ _ n e), fun a e => ?_⟩, ?_⟩
  · obtain ⟨e1, e2⟩ := t2 a e
    obtain ⟨n, _, q⟩ := t a e
    exact ⟨aft_lst n e1, e1, by rw [e2]; exact aft_same.seq q⟩
  · obtain ⟨k, d⟩ := r
    cases k with
    | S => exact aft_rp sub d c hr
    | B => cases d <;> simp [clean] at c
    | F =>
      obtain ⟨p, ds, vs, e1, e2, e3, e4, e5⟩ := hr
      have e1' : d = .list ds := e1
      subst e1'
      have n : S p = none := by
        cases z : S p with
        | none => rfl
        | some o => have := s _ _ z; rw [e3] at this; cases this
      exact ⟨p, ds, vs, rfl, e2, e4, aft_lst n e4, e3, aft_rpAll sub ds c e5⟩
end

section
variable {X : Cx} {ta : Ta} {Φ : Nat → List D → Option R} {Ψ : Nat → List D → Tp → Option (R × Tp)} {e a b c : Expr} {ca cb cc : E} {pos : Pos}
/-- constants -/
theorem e_const {v : V} {d : D} (h : PE X e (tC v)) (hd : ∀ H, Rp X.K H v d) : PE X e (tE X.K ta Φ Ψ (.cst d)) := PE.weak h fun σ H Q ⟨S, ρ, τ, r, τ', hR, hT, he, hQ⟩ => by
  simp only [ev, Option.some.injEq, Prod.mk.injEq] at he
  obtain ⟨rfl, rfl⟩ := he
  exact hQ v S H (Stp.refl hR.sub hT) (hd S)
theorem getD_some {σ : L2.St} {i : Nat} {v : V} (h : σ[i]?.getD none = some v) : σ[i]? = some (some v) := by
  cases q : σ[i]? with
  | none => rw [q] at h; cases h
  | some o => rw [q] at h; exact congrArg some h
theorem e_var {i : Nat} (h : PE X e (tVar i)) : PE X e (tE X.K ta Φ Ψ (.var i)) := PE.weak h fun σ H Q ⟨S, ρ, τ, r, τ', hR, hT, he, hQ⟩ => by
  simp only [ev] at he
  cases q : ρ[i]? with
  | none => rw [q] at he; cases he
  | some s =>
    rw [q] at he
    have hs := hR.slot i s q
    cases s with
    | un => cases he
    | tp => cases he
    | im d =>
      cases he
      obtain ⟨v, e1, e2⟩ := hs
      exact ⟨v, getD_some e1, hQ v S H (Stp.refl hR.sub hT) e2⟩
    | ow ds =>
      cases he
      obtain ⟨p, vs, e1, e2, e3, e4, e5⟩ := hs
      exact ⟨.ref p, getD_some e1, hQ (.ref p) S H (Stp.refl hR.sub hT) ⟨p, ds, vs, rfl, rfl, e2, e4, e5⟩⟩
/-- two operands, one after the other -/
theorem two_ok {r : R2} {Q : VK} {S H : Hp} {σ : L2.St} {ρ : Rho} {τ : Tp} {x y : R × Tp} (hR : Rel X.K ta ρ S σ H) (hT : TpOk X.K ta S H τ) (hx : ev Φ Ψ ρ τ ca = some x) (hy : ev Φ Ψ ρ x.2 cb = some y)
    (hr : ∀ vx vy S2 H2, Stp X.K ta y.2 S H S2 H2 → UV X.K ta S2 H2 vx x.1 → UV X.K ta S2 H2 vy y.1 → r vx vy H2 Q) : tOp r (tU X.K ta Φ Ψ ca) (tU X.K ta Φ Ψ cb) σ H Q :=
  ⟨S, ρ, τ, x.1, x.2, hR, hT, hx, fun vx S1 H1 st1 u1 => ⟨S1, ρ, x.2, y.1, y.2, hR.step st1, st1.tape, hy, fun vy S2 H2 st2 u2 => hr vx vy S2 H2 (st1.trans st2) (u1.mono st2) u2⟩⟩
theorem bind_some {α β : Type} {o : Option α} {f : α → Option β} {z : β} (h : o.bind f = some z) : ∃ x, o = some x ∧ f x = some z := by
  cases o with
  | none => cases h
  | some x => exact ⟨x, rfl, h⟩
theorem map_some {α β : Type} {o : Option α} {f : α → β} {z : β} (h : o.map f = some z) : ∃ x, o = some x ∧ f x = z := by
  cases o with
  | none => cases h
  | some x => exact ⟨x, rfl, Option.some.inj h⟩
theorem e_bin {op : Bo} (ha : PE X a (tE X.K ta Φ Ψ ca)) (hb : PE X b (tE X.K ta Φ Ψ cb)) : PE X (.BinOp a (boO op) b pos) (tE X.K ta Φ Ψ (.bin op ca cb)) :=
  PE.weak (pe_op (bo_run (ta := ta) op) ha.use hb.use) fun σ H Q ⟨S, ρ, τ, r, τ', hR, hT, he, hQ⟩ => by
    simp only [ev] at he
    obtain ⟨x, hx, he⟩ := bind_some he
    obtain ⟨y, hy, he⟩ := bind_some he
    obtain ⟨z, hz, he⟩ := map_some he
    cases he
    exact two_ok hR hT hx hy fun vx vy S2 H2 st u1 u2 => ⟨S2, y.2, x.1, y.1, _, st.sub, st.tape, u1, u2, hz, Post.later hQ st⟩
theorem one_ok {Q : VK} {S H : Hp} {σ : L2.St} {ρ : Rho} {τ : Tp} {x : R × Tp} (hR : Rel X.K ta ρ S σ H) (hT : TpOk X.K ta S H τ) (hx : ev Φ Ψ ρ τ ca = some x)
    (hr : ∀ vx S2 H2, Stp X.K ta x.2 S H S2 H2 → UV X.K ta S2 H2 vx x.1 → Q vx H2) : tU X.K ta Φ Ψ ca σ H Q := ⟨S, ρ, τ, x.1, x.2, hR, hT, hx, fun vx S1 H1 st u => hr vx S1 H1 st u⟩
theorem intOf_some {d : D} {i : Int} (h : intOf d = some i) : d = .int i := by
  cases d <;> simp [intOf] at h
  rw [h]
theorem e_neg (ha : PE X a (tE X.K ta Φ Ψ ca)) : PE X (.UnaryOp .USub a pos) (tE X.K ta Φ Ψ (.neg ca)) :=
  PE.weak (pe_un un_neg ha.use) fun σ H Q ⟨S, ρ, τ, r, τ', hR, hT, he, hQ⟩ => by
    simp only [ev] at he
    obtain ⟨x, hx, he⟩ := bind_some he
    obtain ⟨i, hi, he⟩ := map_some he
    cases he
    exact one_ok hR hT hx fun vx S2 H2 st u => ⟨i, u.int (intOf_some hi), hQ _ S2 H2 st rfl⟩
theorem cmp_data {op : Co} {σ : L2.St} {H : Hp} {Q : VK} {S : Hp} {ρ : Rho} {τ τ' : Tp} {r : R} (hR : Rel X.K ta ρ S σ H) (hT : TpOk X.K ta S H τ) (he : ev Φ Ψ ρ τ (.cmp op ca cb) = some (r, τ')) (hQ : Post X.K ta S H τ' r Q) :
    tOp (rTwo X.K ta (cmpR op)) (tU X.K ta Φ Ψ ca) (tU X.K ta Φ Ψ cb) σ H Q := by
  simp only [ev] at he
  obtain ⟨x, hx, he⟩ := bind_some he
  obtain ⟨y, hy, he⟩ := bind_some he
  obtain ⟨z, hz, he⟩ := map_some he
  cases he
  exact two_ok hR hT hx hy fun vx vy S2 H2 st u1 u2 => ⟨S2, y.2, x.1, y.1, _, st.sub, st.tape, u1, u2, by unfold cmpR; rw [hz]; rfl, Post.later hQ st⟩
theorem e_cmp {op : Co} (hu : X.A.units + 80 < cLine) (ha : PE X a (tE X.K ta Φ Ψ ca)) (hb : PE X b (tE X.K ta Φ Ψ cb)) (hm : behindInMarks (coO op) b = false) : PE X (.Compare a [coO op] [b] pos) (tE X.K ta Φ Ψ (.cmp op ca cb)) :=
  PE.weak (pe_cmpR (co_run (ta := ta) hu op) ha.use hb.use hm) fun σ H Q ⟨S, ρ, τ, r, τ', hR, hT, he, hQ⟩ => cmp_data hR hT he hQ
/-- a test's answer -/
theorem post_bool {K : PySem.W.Frag} {S H : Hp} {τ : Tp} {r : R} {k : Bool} {Q : Bool → Hp → Prop} (hr : r.d = .bool k) (hQ : ∀ S' H', Stp K ta τ S H S' H' → Q k H') : Post K ta S H τ r fun x H' => ∃ k', x = .bl k' ∧ Q k' H' := fun v S' H' st rv => by
  obtain ⟨kd, d⟩ := r
  have e : d = .bool k := hr
  subst e
  cases kd with
  | S => exact ⟨k, rv, hQ S' H' st⟩
  | B => obtain ⟨p, ds, vs, e1, _⟩ := rv; cases e1
  | F => obtain ⟨p, ds, vs, e1, _⟩ := rv; cases e1
theorem t_cmp {op : Co} (hu : X.A.units + 80 < cLine) (ha : PE X a (tE X.K ta Φ Ψ ca)) (hb : PE X b (tE X.K ta Φ Ψ cb)) (hm : behindInMarks (coO op) b = false) : PT X (.Compare a [coO op] [b] pos) (tT X.K ta Φ Ψ (.cmp op ca cb)) :=
  PT.weak (pt_cmpR (co_run (ta := ta) hu op) ha.use hb.use hm) fun σ H Q ⟨S, ρ, τ, r, τ', k, hR, hT, he, hr, hQ⟩ => cmp_data hR hT he (post_bool hr hQ)
/-- any expression as a test -/
theorem t_val (h : PE X e (tE X.K ta Φ Ψ ca)) (he : ∀ whole, isTrue e X.env whole = (do let v ← whole; standAt e.pos; holding [v] (truthy v))) : PT X e (tT X.K ta Φ Ψ ca) :=
  PT.weak (pt_val h he) fun σ H Q ⟨S, ρ, τ, r, τ', k, hR, hT, hv, hr, hQ⟩ => ⟨S, ρ, τ, r, τ', hR, hT, hv, post_bool hr hQ⟩
theorem chn_data {o1 o2 : Co} {σ : L2.St} {H : Hp} {Q : VK} {S : Hp} {ρ : Rho} {τ τ' : Tp} {r : R} (hR : Rel X.K ta ρ S σ H) (hT : TpOk X.K ta S H τ) (he : ev Φ Ψ ρ τ (.chn o1 o2 ca cb cc) = some (r, τ')) (hQ : Post X.K ta S H τ' r Q) :
    tChain (rTwo X.K ta (cmpR o1)) (rTwo X.K ta (cmpR o2)) (tU X.K ta Φ Ψ ca) (tU X.K ta Φ Ψ cb) (tU X.K ta Φ Ψ cc) σ H Q := by
  simp only [ev] at he
  obtain ⟨x, hx, he⟩ := bind_some he
  obtain ⟨y, hy, he⟩ := bind_some he
  obtain ⟨k, hk, he⟩ := bind_some he
  refine ⟨S, ρ, τ, x.1, x.2, hR, hT, hx, fun vx S1 H1 st1 u1 => ⟨S1, ρ, x.2, y.1, y.2, hR.step st1, st1.tape, hy, fun vy S2 H2 st2 u2 => ?_⟩⟩
  refine ⟨S2, y.2, x.1, y.1, ⟨.S, .bool k⟩, st2.sub, st2.tape, u1.mono st2, u2, by unfold cmpR; rw [hk]; rfl, ?_⟩
  refine post_bool (Q := fun k H3 => if k = true then _ else _) rfl fun S3 H3 st3 => ?_
  have st := (st1.trans st2).trans st3
  cases k with
  | true =>
    rw [if_pos rfl] at he
    obtain ⟨z, hz, he⟩ := bind_some he
    obtain ⟨q, hq, he⟩ := map_some he
    cases he
    refine iteT ⟨S3, ρ, y.2, z.1, z.2, (hR.step st), st.tape, hz, fun vz S4 H4 st4 u4 => ⟨S4, z.2, y.1, z.1, _, st4.sub, st4.tape, (u2.mono st3).mono st4, u4, by unfold cmpR; rw [hq]; rfl, Post.later hQ (st.trans st4)⟩⟩
  | false =>
    rw [if_neg Bool.false_ne_true] at he
    cases he
    exact iteF (hQ _ S3 H3 st rfl)
theorem e_chn {o1 o2 : Co} (hu : X.A.units + 80 < cLine) (ha : PE X a (tE X.K ta Φ Ψ ca)) (hb : PE X b (tE X.K ta Φ Ψ cb)) (hc : PE X c (tE X.K ta Φ Ψ cc)) (hm : lastMarks [coO o1, coO o2] [b, c] = false) : PE X (.Compare a [coO o1, coO o2] [b, c] pos) (tE X.K ta Φ Ψ (.chn o1 o2 ca cb cc)) :=
  PE.weak (pe_chain (co_run (ta := ta) hu o1) (co_run (ta := ta) hu o2) ha.use hb.use hc.use hm) fun σ H Q ⟨S, ρ, τ, r, τ', hR, hT, he, hQ⟩ => chn_data hR hT he hQ
theorem t_chn {o1 o2 : Co} (hu : X.A.units + 80 < cLine) (ha : PE X a (tE X.K ta Φ Ψ ca)) (hb : PE X b (tE X.K ta Φ Ψ cb)) (hc : PE X c (tE X.K ta Φ Ψ cc)) (hm : lastMarks [coO o1, coO o2] [b, c] = false) : PT X (.Compare a [coO o1, coO o2] [b, c] pos) (tT X.K ta Φ Ψ (.chn o1 o2 ca cb cc)) :=
  PT.weak (pt_chain (co_run (ta := ta) hu o1) (co_run (ta := ta) hu o2) ha.use hb.use hc.use hm) fun σ H Q ⟨S, ρ, τ, r, τ', k, hR, hT, he, hr, hQ⟩ => chn_data hR hT he (post_bool hr hQ)
/-- is None -/
theorem non_iff {K : PySem.W.Frag} {S1 H1 : Hp} {v : V} {r : R} (u : UV K ta S1 H1 v r) : decide (v = .non) = nonD r.d := by
  obtain ⟨k, d⟩ := r
  have go : Rp K S1 v d → decide (v = .non) = nonD d := fun h => by
    cases d with
    | none => have h' : v = .non := h; subst h'; rfl
    | bool b => have h' : v = .bl b := h; subst h'; rfl
    | int b => have h' : v = .int b := h; subst h'; rfl
    | str b => have h' : v = .str b := h; subst h'; rfl
    | list ds => obtain ⟨p, vs, e1, _⟩ := h; subst e1; rfl
    | tuple ds => obtain ⟨p, vs, e1, _⟩ := h; subst e1; rfl
    | dict _ => exact h.elim
  cases k with
  | S => exact go u
  | F => exact go u
  | B =>
    obtain ⟨p, ds, vs, e1, e2, _⟩ := u
    have e1' : d = .list ds := e1
    subst e1' e2
    rfl
theorem isN_data {σ : L2.St} {H : Hp} {Q : VK} {S : Hp} {ρ : Rho} {τ τ' : Tp} {r : R} (hR : Rel X.K ta ρ S σ H) (hT : TpOk X.K ta S H τ) (he : ev Φ Ψ ρ τ (.isN ca) = some (r, τ')) (hQ : Post X.K ta S H τ' r Q) : tIsN (tU X.K ta Φ Ψ ca) σ H Q := by
  simp only [ev] at he
  obtain ⟨x, hx, he⟩ := map_some he
  cases he
  refine one_ok hR hT hx fun vx S2 H2 st u => hQ _ S2 H2 st ?_
  show V.bl _ = V.bl _
  rw [non_iff u]
theorem notN_data {σ : L2.St} {H : Hp} {Q : VK} {S : Hp} {ρ : Rho} {τ τ' : Tp} {r : R} (hR : Rel X.K ta ρ S σ H) (hT : TpOk X.K ta S H τ) (he : ev Φ Ψ ρ τ (.notN ca) = some (r, τ')) (hQ : Post X.K ta S H τ' r Q) : tNotN (tU X.K ta Φ Ψ ca) σ H Q := by
  simp only [ev] at he
  obtain ⟨x, hx, he⟩ := map_some he
  cases he
  refine one_ok hR hT hx fun vx S2 H2 st u => hQ _ S2 H2 st ?_
  show V.bl _ = V.bl _
  rw [non_iff u]
theorem e_isN {j pos'} (ha : PE X a (tE X.K ta Φ Ψ ca)) : PE X (.Compare a [.Is] [.Constant .none j pos'] pos) (tE X.K ta Φ Ψ (.isN ca)) := PE.weak (pe_cmp (pc_isN ha.use) rfl) fun σ H Q ⟨S, ρ, τ, r, τ', hR, hT, he, hQ⟩ => isN_data hR hT he hQ
theorem e_notN {j pos'} (ha : PE X a (tE X.K ta Φ Ψ ca)) : PE X (.Compare a [.IsNot] [.Constant .none j pos'] pos) (tE X.K ta Φ Ψ (.notN ca)) := PE.weak (pe_cmp (pc_notN ha.use) rfl) fun σ H Q ⟨S, ρ, τ, r, τ', hR, hT, he, hQ⟩ => notN_data hR hT he hQ
theorem t_isN {j pos'} (ha : PE X a (tE X.K ta Φ Ψ ca)) : PT X (.Compare a [.Is] [.Constant .none j pos'] pos) (tT X.K ta Φ Ψ (.isN ca)) := PT.weak (pt_cmp (pc_isN ha.use) rfl) fun σ H Q ⟨S, ρ, τ, r, τ', k, hR, hT, he, hr, hQ⟩ => isN_data hR hT he (post_bool hr hQ)
theorem t_notN {j pos'} (ha : PE X a (tE X.K ta Φ Ψ ca)) : PT X (.Compare a [.IsNot] [.Constant .none j pos'] pos) (tT X.K ta Φ Ψ (.notN ca)) := PT.weak (pt_cmp (pc_notN ha.use) rfl) fun σ H Q ⟨S, ρ, τ, r, τ', k, hR, hT, he, hr, hQ⟩ => notN_data hR hT he (post_bool hr hQ)
/-- is True -/
theorem isB_data {σ : L2.St} {H : Hp} {Q : VK} {S : Hp} {ρ : Rho} {τ τ' : Tp} {r : R} (hR : Rel X.K ta ρ S σ H) (hT : TpOk X.K ta S H τ) (he : ev Φ Ψ ρ τ (.isB ca cb) = some (r, τ')) (hQ : Post X.K ta S H τ' r Q) : tOp rIsB (tU X.K ta Φ Ψ ca) (tU X.K ta Φ Ψ cb) σ H Q := by
  simp only [ev] at he
  obtain ⟨x, hx, he⟩ := bind_some he
  obtain ⟨y, hy, he⟩ := bind_some he
  split at he
  · rename_i i j q1 q2
    cases he
    refine two_ok hR hT hx hy fun vx vy S2 H2 st u1 u2 => ⟨i, j, u1.bool q1, u2.bool q2, hQ _ S2 H2 st ?_⟩
    show V.bl _ = V.bl _
    cases i <;> cases j <;> rfl
  · cases he
theorem notB_data {σ : L2.St} {H : Hp} {Q : VK} {S : Hp} {ρ : Rho} {τ τ' : Tp} {r : R} (hR : Rel X.K ta ρ S σ H) (hT : TpOk X.K ta S H τ) (he : ev Φ Ψ ρ τ (.notB ca cb) = some (r, τ')) (hQ : Post X.K ta S H τ' r Q) : tOp rNotB (tU X.K ta Φ Ψ ca) (tU X.K ta Φ Ψ cb) σ H Q := by
  simp only [ev] at he
  obtain ⟨x, hx, he⟩ := bind_some he
  obtain ⟨y, hy, he⟩ := bind_some he
  split at he
  · rename_i i j q1 q2
    cases he
    refine two_ok hR hT hx hy fun vx vy S2 H2 st u1 u2 => ⟨i, j, u1.bool q1, u2.bool q2, hQ _ S2 H2 st ?_⟩
    show V.bl _ = V.bl _
    cases i <;> cases j <;> rfl
  · cases he
theorem e_isB (ha : PE X a (tE X.K ta Φ Ψ ca)) (hb : PE X b (tE X.K ta Φ Ψ cb)) (hm : behindInMarks .Is b = false) : PE X (.Compare a [.Is] [b] pos) (tE X.K ta Φ Ψ (.isB ca cb)) := PE.weak (pe_cmpR op_isBl ha.use hb.use hm) fun σ H Q ⟨S, ρ, τ, r, τ', hR, hT, he, hQ⟩ => isB_data hR hT he hQ
theorem e_notB (ha : PE X a (tE X.K ta Φ Ψ ca)) (hb : PE X b (tE X.K ta Φ Ψ cb)) (hm : behindInMarks .IsNot b = false) : PE X (.Compare a [.IsNot] [b] pos) (tE X.K ta Φ Ψ (.notB ca cb)) := PE.weak (pe_cmpR op_notBl ha.use hb.use hm) fun σ H Q ⟨S, ρ, τ, r, τ', hR, hT, he, hQ⟩ => notB_data hR hT he hQ
theorem t_isB (ha : PE X a (tE X.K ta Φ Ψ ca)) (hb : PE X b (tE X.K ta Φ Ψ cb)) (hm : behindInMarks .Is b = false) : PT X (.Compare a [.Is] [b] pos) (tT X.K ta Φ Ψ (.isB ca cb)) := PT.weak (pt_cmpR op_isBl ha.use hb.use hm) fun σ H Q ⟨S, ρ, τ, r, τ', k, hR, hT, he, hr, hQ⟩ => isB_data hR hT he (post_bool hr hQ)
theorem t_notB (ha : PE X a (tE X.K ta Φ Ψ ca)) (hb : PE X b (tE X.K ta Φ Ψ cb)) (hm : behindInMarks .IsNot b = false) : PT X (.Compare a [.IsNot] [b] pos) (tT X.K ta Φ Ψ (.notB ca cb)) := PT.weak (pt_cmpR op_notBl ha.use hb.use hm) fun σ H Q ⟨S, ρ, τ, r, τ', k, hR, hT, he, hr, hQ⟩ => notB_data hR hT he (post_bool hr hQ)
/-- and, or, not, if else: as tests, as values -/
theorem con_cases {σ : L2.St} {H S : Hp} {ρ : Rho} {τ τ' : Tp} {r : R} (he : ev Φ Ψ ρ τ (.con ca cb) = some (r, τ')) : ∃ x k, ev Φ Ψ ρ τ ca = some x ∧ x.1.d = .bool k ∧ (k = false → r = ⟨.S, .bool false⟩ ∧ τ' = x.2) ∧ (k = true → ∃ y j, ev Φ Ψ ρ x.2 cb = some (y, τ') ∧ y.d = .bool j ∧ r = ⟨.S, .bool j⟩) := by
  simp only [ev] at he
  obtain ⟨x, hx, he⟩ := bind_some he
  split at he
  · rename_i q
    obtain ⟨y, hy, he⟩ := bind_some he
    split at he
    · rename_i j q2
      cases he
      exact ⟨x, true, hx, q, (fun z => nomatch z), fun _ => ⟨y.1, j, hy, q2, rfl⟩⟩
    · cases he
  · rename_i q
    cases he
    exact ⟨x, false, hx, q, fun _ => ⟨rfl, rfl⟩, (fun z => nomatch z)⟩
  · cases he
theorem dis_cases {σ : L2.St} {H S : Hp} {ρ : Rho} {τ τ' : Tp} {r : R} (he : ev Φ Ψ ρ τ (.dis ca cb) = some (r, τ')) : ∃ x k, ev Φ Ψ ρ τ ca = some x ∧ x.1.d = .bool k ∧ (k = true → r = ⟨.S, .bool true⟩ ∧ τ' = x.2) ∧ (k = false → ∃ y j, ev Φ Ψ ρ x.2 cb = some (y, τ') ∧ y.d = .bool j ∧ r = ⟨.S, .bool j⟩) := by
  simp only [ev] at he
  obtain ⟨x, hx, he⟩ := bind_some he
  split at he
  · rename_i q
    obtain ⟨y, hy, he⟩ := bind_some he
    split at he
    · rename_i j q2
      cases he
      exact ⟨x, false, hx, q, (fun z => nomatch z), fun _ => ⟨y.1, j, hy, q2, rfl⟩⟩
    · cases he
  · rename_i q
    cases he
    exact ⟨x, true, hx, q, fun _ => ⟨rfl, rfl⟩, (fun z => nomatch z)⟩
  · cases he
theorem w_con {rest : List Expr} (ha : PT X a (tT X.K ta Φ Ψ ca)) (hb : PW X (.BoolOp .And (b :: rest) pos) (tT X.K ta Φ Ψ cb)) : PW X (.BoolOp .And (a :: b :: rest) pos) (tT X.K ta Φ Ψ (.con ca cb)) :=
  PW.weak (pw_and ha hb) fun σ H Q ⟨S, ρ, τ, r, τ', k0, hR, hT, he, hr, hQ⟩ => by
    obtain ⟨x, k, hx, q, h0, h1⟩ := con_cases (σ := σ) (H := H) (S := S) he
    refine ⟨S, ρ, τ, x.1, x.2, k, hR, hT, hx, q, fun S1 H1 st => ?_⟩
    cases k with
    | false =>
      obtain ⟨rfl, rfl⟩ := h0 rfl
      cases hr
      exact iteF (hQ S1 H1 st)
    | true =>
      obtain ⟨y, j, hy, q2, rfl⟩ := h1 rfl
      cases hr
      exact iteT ⟨S1, ρ, x.2, y, τ', _, hR.step st, st.tape, hy, q2, fun S2 H2 st2 => hQ S2 H2 (st.trans st2)⟩
theorem w_dis {rest : List Expr} (ha : PT X a (tT X.K ta Φ Ψ ca)) (hb : PW X (.BoolOp .Or (b :: rest) pos) (tT X.K ta Φ Ψ cb)) : PW X (.BoolOp .Or (a :: b :: rest) pos) (tT X.K ta Φ Ψ (.dis ca cb)) :=
  PW.weak (pw_or ha hb) fun σ H Q ⟨S, ρ, τ, r, τ', k0, hR, hT, he, hr, hQ⟩ => by
    obtain ⟨x, k, hx, q, h0, h1⟩ := dis_cases (σ := σ) (H := H) (S := S) he
    refine ⟨S, ρ, τ, x.1, x.2, k, hR, hT, hx, q, fun S1 H1 st => ?_⟩
    cases k with
    | true =>
      obtain ⟨rfl, rfl⟩ := h0 rfl
      cases hr
      exact iteT (hQ S1 H1 st)
    | false =>
      obtain ⟨y, j, hy, q2, rfl⟩ := h1 rfl
      cases hr
      exact iteF ⟨S1, ρ, x.2, y, τ', _, hR.step st, st.tape, hy, q2, fun S2 H2 st2 => hQ S2 H2 (st.trans st2)⟩
theorem tE_of {σ : L2.St} {H S : Hp} {ρ : Rho} {τ τ' : Tp} {y : R} {j : Bool} {Q : VK} (hR : Rel X.K ta ρ S σ H) (hT : TpOk X.K ta S H τ) (hy : ev Φ Ψ ρ τ cb = some (y, τ')) (q2 : y.d = .bool j) (hQ : ∀ S2 H2, Stp X.K ta τ' S H S2 H2 → Q (.bl j) H2) : (tE X.K ta Φ Ψ cb) σ H Q :=
  ⟨S, ρ, τ, y, τ', hR, hT, hy, fun v S2 H2 st rv => by
    obtain ⟨k', e1, e2⟩ := post_bool (Q := fun k H' => k = j → Q (.bl k) H') q2 (fun S' H' st' _ => hQ S' H' st') v S2 H2 st rv
    have : k' = j := by
      obtain ⟨kd, d⟩ := y
      have e : d = .bool j := q2
      subst e
      cases kd with
      | S => have e3 : v = .bl j := rv; rw [e3] at e1; cases e1; rfl
      | B => obtain ⟨p, ds, vs, z, _⟩ := rv; cases z
      | F => obtain ⟨p, ds, vs, z, _⟩ := rv; cases z
    subst this
    rw [e1]
    exact e2 rfl⟩
theorem e_con {rest : List Expr} (ha : PE X a (tE X.K ta Φ Ψ ca)) (hb : PE X (.BoolOp .And (b :: rest) pos) (tE X.K ta Φ Ψ cb)) : PE X (.BoolOp .And (a :: b :: rest) pos) (tE X.K ta Φ Ψ (.con ca cb)) :=
  PE.weak (pe_and ha hb) fun σ H Q ⟨S, ρ, τ, r, τ', hR, hT, he, hQ⟩ => by
    obtain ⟨x, k, hx, q, h0, h1⟩ := con_cases (σ := σ) (H := H) (S := S) he
    refine tE_of hR hT hx q fun S1 H1 st => ⟨k, rfl, ?_⟩
    cases k with
    | false =>
      obtain ⟨rfl, rfl⟩ := h0 rfl
      exact iteF (hQ _ S1 H1 st rfl)
    | true =>
      obtain ⟨y, j, hy, q2, rfl⟩ := h1 rfl
      exact iteT (tE_of (hR.step st) st.tape hy q2 fun S2 H2 st2 => hQ _ S2 H2 (st.trans st2) rfl)
theorem e_dis {rest : List Expr} (ha : PE X a (tE X.K ta Φ Ψ ca)) (hb : PE X (.BoolOp .Or (b :: rest) pos) (tE X.K ta Φ Ψ cb)) : PE X (.BoolOp .Or (a :: b :: rest) pos) (tE X.K ta Φ Ψ (.dis ca cb)) :=
  PE.weak (pe_or ha hb) fun σ H Q ⟨S, ρ, τ, r, τ', hR, hT, he, hQ⟩ => by
    obtain ⟨x, k, hx, q, h0, h1⟩ := dis_cases (σ := σ) (H := H) (S := S) he
    refine tE_of hR hT hx q fun S1 H1 st => ⟨k, rfl, ?_⟩
    cases k with
    | true =>
      obtain ⟨rfl, rfl⟩ := h0 rfl
      exact iteT (hQ _ S1 H1 st rfl)
    | false =>
      obtain ⟨y, j, hy, q2, rfl⟩ := h1 rfl
      exact iteF (tE_of (hR.step st) st.tape hy q2 fun S2 H2 st2 => hQ _ S2 H2 (st.trans st2) rfl)
theorem inv_cases {ρ : Rho} {τ τ' : Tp} {r : R} (he : ev Φ Ψ ρ τ (.inv ca) = some (r, τ')) : ∃ x k, ev Φ Ψ ρ τ ca = some (x, τ') ∧ x.d = .bool k ∧ r = ⟨.S, .bool (!k)⟩ := by
  simp only [ev] at he
  obtain ⟨x, hx, he⟩ := bind_some he
  split at he
  · rename_i k q
    cases he
    exact ⟨x.1, k, hx, q, rfl⟩
  · cases he
theorem t_inv (ha : PT X a (tT X.K ta Φ Ψ ca)) : PT X (.UnaryOp .Not a pos) (tT X.K ta Φ Ψ (.inv ca)) :=
  PT.weak (pt_not ha) fun σ H Q ⟨S, ρ, τ, r, τ', k0, hR, hT, he, hr, hQ⟩ => by
    obtain ⟨x, k, hx, q, rfl⟩ := inv_cases he
    cases hr
    exact ⟨S, ρ, τ, x, τ', k, hR, hT, hx, q, hQ⟩
theorem e_inv (ha : PE X a (tE X.K ta Φ Ψ ca)) : PE X (.UnaryOp .Not a pos) (tE X.K ta Φ Ψ (.inv ca)) :=
  PE.weak (pe_not ha) fun σ H Q ⟨S, ρ, τ, r, τ', hR, hT, he, hQ⟩ => by
    obtain ⟨x, k, hx, q, rfl⟩ := inv_cases he
    exact tE_of hR hT hx q fun S1 H1 st => ⟨k, rfl, hQ _ S1 H1 st rfl⟩
theorem e_ite (hc : PT X c (tT X.K ta Φ Ψ cc)) (ha : PE X a (tE X.K ta Φ Ψ ca)) (hb : PE X b (tE X.K ta Φ Ψ cb)) : PE X (.IfExp c a b pos) (tE X.K ta Φ Ψ (.ite cc ca cb)) :=
  PE.weak (pe_ifExp hc ha hb) fun σ H Q ⟨S, ρ, τ, r, τ', hR, hT, he, hQ⟩ => by
    simp only [ev] at he
    obtain ⟨x, hx, he⟩ := bind_some he
    split at he
    · rename_i q
      exact ⟨S, ρ, τ, x.1, x.2, true, hR, hT, hx, q, fun S1 H1 st => iteT ⟨S1, ρ, x.2, r, τ', hR.step st, st.tape, he, Post.later hQ st⟩⟩
    · rename_i q
      exact ⟨S, ρ, τ, x.1, x.2, false, hR, hT, hx, q, fun S1 H1 st => iteF ⟨S1, ρ, x.2, r, τ', hR.step st, st.tape, he, Post.later hQ st⟩⟩
    · cases he
/-- arguments -/
theorem as_nil : PA X [] (tAs X.K ta Φ Ψ []) := PA.weak pa_nil fun σ H Q ⟨S, ρ, τ, rs, τ', hR, hT, he, hQ⟩ => by
  simp only [evs, Option.some.injEq, Prod.mk.injEq] at he
  obtain ⟨rfl, rfl⟩ := he
  exact hQ [] S H (Stp.refl hR.sub hT) trivial
theorem as_cons {es : List Expr} {cs : List E} (ha : PE X e (tE X.K ta Φ Ψ ca)) (hr : PA X es (tAs X.K ta Φ Ψ cs)) (hs : starEach (e :: es) X.env = (false, eval e X.env) :: starEach es X.env) : PA X (e :: es) (tAs X.K ta Φ Ψ (ca :: cs)) :=
  PA.weak (pa_cons ha.use hr hs) fun σ H Q ⟨S, ρ, τ, rs, τ', hR, hT, he, hQ⟩ => by
    simp only [evs] at he
    obtain ⟨x, hx, he⟩ := bind_some he
    obtain ⟨y, hy, he⟩ := map_some he
    cases he
    exact one_ok hR hT hx fun vx S1 H1 st1 u1 => ⟨S1, ρ, x.2, y.1, y.2, hR.step st1, st1.tape, hy, fun vs S2 H2 st2 u2 => hQ _ S2 H2 (st1.trans st2) ⟨u1.mono st2, u2⟩⟩
theorem e_tup {es : List Expr} {cs : List E} {x1 : Nat} (h : PA X es (tAs X.K ta Φ Ψ cs)) : PE X (.Tuple es x1 pos) (tE X.K ta Φ Ψ (.tup cs)) :=
  PE.weak (pe_tup h) fun σ H Q ⟨S, ρ, τ, r, τ', hR, hT, he, hQ⟩ => by
    simp only [ev] at he
    obtain ⟨x, hx, he⟩ := bind_some he
    obtain ⟨ds, hd, he⟩ := bind_some he
    split at he
    · rename_i hc
      cases he
      refine ⟨S, ρ, τ, x.1, x.2, hR, hT, hx, fun vs S1 H1 st u => ?_⟩
      have hall := u.st hd
      refine ⟨len_of (by rw [hall.length]; exact of_decide_eq_true hc), fun p n => (Post.later hQ st).tup st.sub st.tape hall n⟩
    · cases he
theorem e_lst {es : List Expr} {cs : List E} (h : PA X es (tAs X.K ta Φ Ψ cs)) : PE X (.List es pos) (tE X.K ta Φ Ψ (.lst cs)) :=
  PE.weak (pe_lst h) fun σ H Q ⟨S, ρ, τ, r, τ', hR, hT, he, hQ⟩ => by
    simp only [ev] at he
    obtain ⟨x, hx, he⟩ := bind_some he
    obtain ⟨ds, hd, he⟩ := bind_some he
    split at he
    · rename_i hc
      cases he
      refine ⟨S, ρ, τ, x.1, x.2, hR, hT, hx, fun vs S1 H1 st u => ?_⟩
      have hall := u.st hd
      refine ⟨len_of (by rw [hall.length]; exact of_decide_eq_true hc), fun p n => (Post.later hQ st).lst st.sub st.tape hall n⟩
    · cases he
/-- subscripts, slices -/
theorem atI_len {α β : Type} {xs : List α} {ys : List β} {i : Int} {x : α} (h : xs.length = ys.length) (e : atI xs i = some x) : ∃ j, ixN ys.length i = some j ∧ xs[j]? = some x := by
  unfold atI at e
  rw [h] at e
  obtain ⟨j, h1, h2⟩ := bind_some e
  exact ⟨j, h1, h2⟩
theorem atD_rp {K : PySem.W.Frag} {H : Hp} {vs : List V} {ds : List D} {i : Int} {d : D} (h : RpAll K H vs ds) (e : atD ds i = some d) : ∃ v, atI vs i = some v ∧ Rp K H v d := by
  obtain ⟨j, h1, h2⟩ := atI_len (h.length).symm e
  obtain ⟨v, h3, h4⟩ := h.get h2
  exact ⟨v, by unfold atI; rw [h1]; exact h3, h4⟩
theorem e_idx (ha : PE X a (tE X.K ta Φ Ψ ca)) (hb : PE X b (tE X.K ta Φ Ψ cb)) (hs : PlainIx b) : PE X (.Subscript a b pos) (tE X.K ta Φ Ψ (.idx ca cb)) :=
  PE.weak (pe_ix ix_seq ha.use hb.use hs) fun σ H Q ⟨S, ρ, τ, r, τ', hR, hT, he, hQ⟩ => by
    simp only [ev] at he
    obtain ⟨x, hx, he⟩ := bind_some he
    obtain ⟨y, hy, he⟩ := bind_some he
    obtain ⟨z, hz, he⟩ := map_some he
    cases he
    refine two_ok hR hT hx hy fun vx vy S2 H2 st u1 u2 => ?_
    have p := Post.later hQ st
    cases q1 : x.1.d <;> cases q2 : y.1.d <;> rw [q1, q2] at hz <;> simp only [idxD] at hz <;> first | cases hz | skip
    · obtain ⟨d, hd, hz⟩ := map_some hz
      cases hz
      obtain ⟨q, vs, rfl, e2, e3⟩ := u1.lst st.sub q1
      obtain ⟨v, e4, e5⟩ := atD_rp e3 hd
      exact .inl ⟨q, vs, _, v, rfl, u2.int q2, SqL.of e2, e4, p.here st.sub st.tape e5⟩
    · obtain ⟨d, hd, hz⟩ := map_some hz
      cases hz
      obtain ⟨q, vs, rfl, e2, e3⟩ := u1.tup q1
      obtain ⟨v, e4, e5⟩ := atD_rp e3 hd
      exact .inr (.inl ⟨q, vs, _, v, rfl, u2.int q2, Same.seqT st.sub e2, e4, p.here st.sub st.tape e5⟩)
theorem cut_rp {K : PySem.W.Frag} {H : Hp} {vs : List V} {ds : List D} (h : RpAll K H vs ds) (lo hi : Option Int) : RpAll K H (cutV vs lo hi) (cutD ds lo hi) := by
  unfold cutV cutD
  rw [h.length]
  exact RpAll.take _ (RpAll.drop _ h)
theorem cut_all {ds : List D} {lo hi : Option Int} (h1 : HT.sIx ds.length 0 lo = 0) (h2 : HT.sIx ds.length ds.length hi = ds.length) : cutD ds lo hi = ds := by
  unfold cutD
  rw [h1, h2]
  simp
/-- a slice of a tuple or a list, by values -/
theorem slc_run : SlR X (fun x lo hi H Q => ∃ S τ r1 r, Same S H ∧ TpOk X.K ta S H τ ∧ UV X.K ta S H x r1 ∧ slcD r1.d lo hi = some r ∧ Post X.K ta S H τ r Q) := by
  intro pins s σ H x v vl vu lo hi sl Q I rx h1 h2 h3 ⟨S, τ, r1, r, hs, ht, u, e, p⟩
  unfold slcD at e
  split at e
  · rename_i ds q
    cases e
    obtain ⟨a, vs, rfl, e2, e3⟩ := u.tup q
    refine sl_tupA pins s σ H _ v vl vu lo hi sl Q I rx h1 h2 h3 ⟨a, vs, rfl, Same.seqT hs e2, fun z => ?_, fun z q n => p.tup hs ht (cut_rp e3 lo hi) n⟩
    rw [e3.length] at z
    rw [cut_all z.1 z.2] at p
    exact p.here hs ht ⟨a, vs, rfl, e2, e3⟩
  · rename_i ds q
    cases e
    obtain ⟨a, vs, rfl, e2, e3⟩ := u.lst hs q
    exact sl_list pins s σ H _ v vl vu lo hi sl Q I rx h1 h2 h3 ⟨a, vs, rfl, SqL.of e2, fun q n => p.lst hs ht (cut_rp e3 lo hi) n⟩
  · cases e
theorem e_slc {p2 : Pos} (ha : PE X a (tE X.K ta Φ Ψ ca)) (hb : PE X b (tE X.K ta Φ Ψ cb)) (hc : PE X c (tE X.K ta Φ Ψ cc)) : PE X (.Subscript a (.Slice (some b) (some c) none p2) pos) (tE X.K ta Φ Ψ (.slc ca cb cc)) :=
  PE.weak (pe_slice (slc_run (ta := ta)) ha.use (po_some hb.use) (po_some hc.use)) fun σ H Q ⟨S, ρ, τ, r, τ', hR, hT, he, hQ⟩ => by
    simp only [ev] at he
    obtain ⟨x, hx, he⟩ := bind_some he
    obtain ⟨y, hy, he⟩ := bind_some he
    obtain ⟨z, hz, he⟩ := bind_some he
    obtain ⟨i, hi, he⟩ := bind_some he
    obtain ⟨j, hj, he⟩ := bind_some he
    obtain ⟨w, hw, he⟩ := map_some he
    cases he
    refine one_ok hR hT hx fun vx S1 H1 st1 u1 => one_ok (hR.step st1) st1.tape hy fun vy S2 H2 st2 u2 => ⟨i, u2.int (intOf_some hi), ?_⟩
    refine one_ok (hR.step (st1.trans st2)) st2.tape hz fun vz S3 H3 st3 u3 => ⟨j, u3.int (intOf_some hj), ?_⟩
    exact ⟨S3, z.2, x.1, _, st3.sub, st3.tape, (u1.mono st2).mono st3, hw, Post.later hQ ((st1.trans st2).trans st3)⟩
theorem e_slcL {p2 : Pos} (ha : PE X a (tE X.K ta Φ Ψ ca)) (hb : PE X b (tE X.K ta Φ Ψ cb)) : PE X (.Subscript a (.Slice (some b) none none p2) pos) (tE X.K ta Φ Ψ (.slcL ca cb)) :=
  PE.weak (pe_slice (slc_run (ta := ta)) ha.use (po_some hb.use) po_none) fun σ H Q ⟨S, ρ, τ, r, τ', hR, hT, he, hQ⟩ => by
    simp only [ev] at he
    obtain ⟨x, hx, he⟩ := bind_some he
    obtain ⟨y, hy, he⟩ := bind_some he
    obtain ⟨i, hi, he⟩ := bind_some he
    obtain ⟨w, hw, he⟩ := map_some he
    cases he
    refine one_ok hR hT hx fun vx S1 H1 st1 u1 => one_ok (hR.step st1) st1.tape hy fun vy S2 H2 st2 u2 => ⟨i, u2.int (intOf_some hi), ?_⟩
    exact ⟨S2, y.2, x.1, _, st2.sub, st2.tape, u1.mono st2, hw, Post.later hQ (st1.trans st2)⟩
theorem e_slcH {p2 : Pos} (ha : PE X a (tE X.K ta Φ Ψ ca)) (hc : PE X c (tE X.K ta Φ Ψ cc)) : PE X (.Subscript a (.Slice none (some c) none p2) pos) (tE X.K ta Φ Ψ (.slcH ca cc)) :=
  PE.weak (pe_slice (slc_run (ta := ta)) ha.use po_none (po_some hc.use)) fun σ H Q ⟨S, ρ, τ, r, τ', hR, hT, he, hQ⟩ => by
    simp only [ev] at he
    obtain ⟨x, hx, he⟩ := bind_some he
    obtain ⟨y, hy, he⟩ := bind_some he
    obtain ⟨i, hi, he⟩ := bind_some he
    obtain ⟨w, hw, he⟩ := map_some he
    cases he
    refine one_ok hR hT hx fun vx S1 H1 st1 u1 => one_ok (hR.step st1) st1.tape hy fun vy S2 H2 st2 u2 => ⟨i, u2.int (intOf_some hi), ?_⟩
    exact ⟨S2, y.2, x.1, _, st2.sub, st2.tape, u1.mono st2, hw, Post.later hQ (st1.trans st2)⟩
theorem e_slcA {p2 : Pos} (ha : PE X a (tE X.K ta Φ Ψ ca)) : PE X (.Subscript a (.Slice none none none p2) pos) (tE X.K ta Φ Ψ (.slcA ca)) :=
  PE.weak (pe_slice (slc_run (ta := ta)) ha.use po_none po_none) fun σ H Q ⟨S, ρ, τ, r, τ', hR, hT, he, hQ⟩ => by
    simp only [ev] at he
    obtain ⟨x, hx, he⟩ := bind_some he
    obtain ⟨w, hw, he⟩ := map_some he
    cases he
    exact one_ok hR hT hx fun vx S1 H1 st1 u1 => ⟨S1, x.2, x.1, _, st1.sub, st1.tape, u1, hw, Post.later hQ st1⟩
theorem e_rev {k : Nat} {p1 p2 p3 : Pos} (ha : PE X a (tE X.K ta Φ Ψ ca)) : PE X (.Subscript a (.Slice none none (some (.UnaryOp .USub (.Constant (.int 1) k p1) p2)) p3) pos) (tE X.K ta Φ Ψ (.rev ca)) :=
  PE.weak (pe_revL ha.use) fun σ H Q ⟨S, ρ, τ, r, τ', hR, hT, he, hQ⟩ => by
    simp only [ev] at he
    obtain ⟨x, hx, he⟩ := bind_some he
    obtain ⟨w, hw, he⟩ := map_some he
    cases he
    refine one_ok hR hT hx fun vx S1 H1 st u => ?_
    cases q : x.1.d <;> rw [q] at hw <;> simp only [revD] at hw <;> first | cases hw | skip
    obtain ⟨p, vs, rfl, e2, e3⟩ := u.lst st.sub q
    exact ⟨p, vs, rfl, SqL.of e2, fun q' n => (Post.later hQ st).lst st.sub st.tape (RpAll.reverse e3) n⟩
/-- calls -/
theorem e_call {k n : Nat} {f : Addr} {fd : FuncData} {ps : List Str} {x : Str} {p : Pos} {es : List Expr} {cs : List E} (F : FnOk X.prog X.w X.K X.mg X.base CX0 k f fd ps (spP X.K (Φ n))) (hr : Room k X.A) (hg : Gl X x) (hm : X.mg x = some (.ref f)) (hk : PySem.W.keepIn X.K (.ref f) = true)
    (hb : Binds X.K fd ps []) (ha : PA X (e :: es) (tAs X.K ta Φ Ψ cs)) (hdb : (x == ("__debug__" : Str)) = false) (he : starEach (e :: es) X.env = (false, eval e X.env) :: starEach es X.env) (hpl : (backTo pos (starEach es X.env)).any (·.1) = false) :
    PE X (.Call (.Name x p) (e :: es) [] pos) (tE X.K ta Φ Ψ (.call n cs)) :=
  PE.weak (pe_call (dvs := []) F hr hg hm hk hb .nil (pass0 (X := X)) ha hdb he hpl) fun σ H Q ⟨S, ρ, τ, r, τ', hR, hT, hv, hQ⟩ => by
    simp only [ev] at hv
    obtain ⟨x, hx, hv⟩ := bind_some hv
    obtain ⟨y, hy, hv⟩ := bind_some hv
    split at hv
    · rename_i hc
      cases hv
      refine ⟨S, ρ, τ, x.1, x.2, hR, hT, hx, fun vs S1 H1 st u => ?_⟩
      refine ⟨x.1.map (·.d), _, by rw [List.append_nil]; exact u.rp st.sub, hy, hc, fun v H' hs hrp => ?_⟩
      obtain ⟨S', st', rv⟩ := after_call (τ2 := x.2) st.sub st.tape (fun b o _ e => hs _ _ e) (fun a e => ⟨hs _ _ (st.tape a e).2.1, rfl⟩) hc hrp
      exact hQ v S' H' (st.trans st') (rv.back st)
    · cases hv
theorem e_callT {k n i : Nat} {f : Addr} {fd : FuncData} {ps : List Str} {x : Str} {p : Pos} {es : List Expr} {cs : List E} (F : FnOk X.prog X.w X.K X.mg X.base CX0 k f fd ps (spT X.K (Ψ n))) (hr : Room k X.A) (hg : Gl X x) (hm : X.mg x = some (.ref f)) (hk : PySem.W.keepIn X.K (.ref f) = true)
    (hb : Binds X.K fd ps []) (hΨ : ∀ ds τ r τ', Ψ n ds τ = some (r, τ') → τ'.cells = τ.cells) (hv0 : PE X e (tVar i)) (ha : PA X es (tAs X.K ta Φ Ψ cs)) (hdb : (x == ("__debug__" : Str)) = false) (he : starEach (e :: es) X.env = (false, eval e X.env) :: starEach es X.env) (hpl : (backTo pos (starEach es X.env)).any (·.1) = false) :
    PE X (.Call (.Name x p) (e :: es) [] pos) (tE X.K ta Φ Ψ (.callT n i cs)) :=
  PE.weak (pe_call (dvs := []) F hr hg hm hk hb .nil (pass0 (X := X)) (pa_cons hv0 ha he) hdb he hpl) fun σ H Q ⟨S, ρ, τ, r, τ', hR, hT, hv, hQ⟩ => by
    simp only [ev] at hv
    split at hv
    · rename_i hi
      obtain ⟨x, hx, hv⟩ := bind_some hv
      obtain ⟨y, hy, hv⟩ := bind_some hv
      split at hv
      · rename_i hc
        cases hv
        obtain ⟨a, ea, ev⟩ := hR.slot i _ hi
        refine ⟨.ref a, getD_some ev, S, ρ, τ, x.1, x.2, hR, hT, hx, fun vs S1 H1 st u => ?_⟩
        have tp := st.tape a ea
        have sub1 : Same S1 (del H1 a) := fun b o e => by
          have nb : b ≠ a := fun z => by rw [z, tp.1] at e; cases e
          rw [del_ne nb]; exact st.sub _ _ e
        have hrp : RpAll X.K (del H1 a) vs (x.1.map (·.d)) := by
          have st2 : Stp X.K ta x.2 S1 H1 S1 H1 := Stp.refl st.sub st.tape
          clear hx hy hc
          generalize x.1 = rs at u
          clear tp hv0
          induction rs generalizing vs with
          | nil => cases vs with
            | nil => exact rfl
            | cons _ _ => exact u.elim
          | cons r0 rs ih => cases vs with
            | nil => exact u.elim
            | cons v0 vs =>
              refine ⟨v0, vs, rfl, ?_, ih vs u.2⟩
              have u0 := u.1
              obtain ⟨kd, d⟩ := r0
              cases kd with
              | S => exact Rp.mono sub1 d u0
              | F => exact Rp.mono sub1 d u0
              | B =>
                obtain ⟨q, ds, ws, e1, e2, e3, e4, e5⟩ := u0
                have e1' : d = .list ds := e1
                subst e1'
                exact ⟨q, ws, e2, by rw [del_ne (fun z => e5 (by rw [z]; exact ea))]; exact e3, RpAll.mono sub1 ds e4⟩
        refine ⟨a, ta.b, vs, x.1.map (·.d), x.2, r, τ', by simp, ⟨del_same, tp.2.1, sub1.seq tp.2.2⟩, hrp, hy, hc, fun v H' hs tp' hret => ?_⟩
        have gro : ∀ b o, ta.a ≠ some b → H1 b = some o → H' b = some o := fun b o n e => by
          have nb : b ≠ a := fun z => n (z ▸ ea)
          have := hs b o (by rw [del_ne nb]; exact e)
          rw [del_ne nb] at this; exact this
        have hret' : RetP X.K H1 H' v r := by
          obtain ⟨kd, d⟩ := r
          cases kd with
          | S => exact Rp.mono del_sub d hret
          | B => exact Rp.mono del_sub d hret
          | F =>
            obtain ⟨q, ds, ws, e1, e2, e3, e4, e5⟩ := hret
            have nq : q ≠ a := fun z => by rw [z, del_same] at e4; cases e4
            rw [del_ne nq] at e3 e4
            exact ⟨q, ds, ws, e1, e2, e3, e4, RpAll.mono del_sub ds e5⟩
        have hcells : τ'.cells = x.2.cells := hΨ _ _ _ _ hy
        obtain ⟨S', st', rv⟩ := after_call (τ2 := τ') st.sub st.tape gro (fun a' e' => by
          rw [ea] at e'
          cases e'
          exact ⟨tp'.2.1, hcells⟩) hc hret'
        exact hQ v S' H' (st.trans st') (rv.back st)
      · cases hv
    · cases hv
end
end Ev

/-! ## Ev6 -/
namespace Ev
open PySem PySem.Spec PyProof.Rows L2

/-! ### built-ins -/
def blV : Bl → Value
  | .len => .builtin "len" | .abs => .builtin "abs" | .min => .builtin "min" | .max => .builtin "max" | .int => .type "int" | .tuple => .type "tuple" | .list => .type "list"
  | .sum => .builtin "sum" | .any => .builtin "any" | .all => .builtin "all" | .sorted => .builtin "sorted" | .bitlen => .builtin "int.bit_length"
def rBlt (K : PySem.W.Frag) (ta : Ta) (b : Bl) : List V → Hp → VK → Prop := fun xs H Q => ∃ S τ rs r, Same S H ∧ TpOk K ta S H τ ∧ UVs K ta S H xs rs ∧ bltD b (rs.map (·.d)) = some r ∧ Post K ta S H τ r Q
section
variable {K : PySem.W.Frag} {ta : Ta} {S H : Hp}
theorem UVs.one {xs : List V} {rs : List R} {d : D} (u : UVs K ta S H xs rs) (e : rs.map (·.d) = [d]) : ∃ x r, xs = [x] ∧ r.d = d ∧ UV K ta S H x r := by
  cases rs with
  | nil => cases e
  | cons r rs =>
    cases rs with
    | cons _ _ => simp at e
    | nil =>
      cases xs with
      | nil => exact u.elim
      | cons x xs =>
        cases xs with
        | cons _ _ => exact u.2.elim
        | nil => exact ⟨x, r, rfl, by simpa using e, u.1⟩
theorem UVs.two {xs : List V} {rs : List R} {d d2 : D} (u : UVs K ta S H xs rs) (e : rs.map (·.d) = [d, d2]) : ∃ x y r r2, xs = [x, y] ∧ r.d = d ∧ r2.d = d2 ∧ UV K ta S H x r ∧ UV K ta S H y r2 := by
  cases rs with
  | nil => cases e
  | cons r rs =>
    cases xs with
    | nil => exact u.elim
    | cons x xs =>
      have e2 : r.d = d ∧ rs.map (·.d) = [d2] := by simpa using e
      obtain ⟨y, r2, f1, f2, f3⟩ := UVs.one u.2 e2.2
      exact ⟨x, y, r, r2, by rw [f1], e2.1, f2, u.1, f3⟩
theorem maxL_best : ∀ {ns : List Int} {M : Int}, maxL ns = some M → M ∈ ns ∧ ∀ y, y ∈ ns → y ≤ M
  | [], _, h => by cases h
  | x :: r, M, h => by
    have h' : r.foldl max x = M := Option.some.inj h
    clear h
    induction r generalizing x with
    | nil => cases h'; simp
    | cons a r ih =>
      obtain ⟨h1, h2⟩ := ih (max x a) h'
      have h3 := h2 (max x a) List.mem_cons_self
      refine ⟨?_, fun y hy => ?_⟩
      · rcases List.mem_cons.mp h1 with e | e
        · by_cases hx : a ≤ x
          · rw [e, Int.max_eq_left hx]; simp
          · rw [e, Int.max_eq_right (by omega)]; simp
        · exact List.mem_cons_of_mem _ (List.mem_cons_of_mem _ e)
      · rcases List.mem_cons.mp hy with e | hy
        · omega
        · rcases List.mem_cons.mp hy with e | hy
          · omega
          · exact h2 y (List.mem_cons_of_mem _ hy)
theorem minL_best : ∀ {ns : List Int} {M : Int}, minL ns = some M → M ∈ ns ∧ ∀ y, y ∈ ns → M ≤ y
  | [], _, h => by cases h
  | x :: r, M, h => by
    have h' : r.foldl min x = M := Option.some.inj h
    clear h
    induction r generalizing x with
    | nil => cases h'; simp
    | cons a r ih =>
      obtain ⟨h1, h2⟩ := ih (min x a) h'
      have h3 := h2 (min x a) List.mem_cons_self
      refine ⟨?_, fun y hy => ?_⟩
      · rcases List.mem_cons.mp h1 with e | e
        · by_cases hx : a ≤ x
          · rw [e, Int.min_eq_right hx]; simp
          · rw [e, Int.min_eq_left (by omega)]; simp
        · exact List.mem_cons_of_mem _ (List.mem_cons_of_mem _ e)
      · rcases List.mem_cons.mp hy with e | hy
        · omega
        · rcases List.mem_cons.mp hy with e | hy
          · omega
          · exact h2 y (List.mem_cons_of_mem _ hy)
theorem intsOf_map : ∀ {ds : List D} {ns : List Int}, intsOf ds = some ns → ds = ns.map PyData.int
  | [], ns, h => by simp [intsOf] at h; subst h; rfl
  | d :: ds, ns, h => by
    cases d <;> simp [intsOf] at h
    obtain ⟨ms, h1, h2⟩ := h
    subst h2
    rw [intsOf_map h1]
    rfl
theorem depth_int : ∀ ns : List Int, PyData.depthAll (ns.map PyData.int) = 0
  | [] => by simp [PyData.depthAll]
  | n :: ns => by simp [PyData.depthAll, PyData.depth, depth_int ns]
theorem alike_int (ns : List Int) : PySem.W.AlikeAll (ns.map PyData.int) := by
  refine ⟨fun x hx y hy => ?_, fun x hx e => ?_⟩
  · obtain ⟨a, _, rfl⟩ := List.mem_map.mp hx
    obtain ⟨b, _, rfl⟩ := List.mem_map.mp hy
    simp [PySem.W.alike]
  · obtain ⟨a, _, z⟩ := List.mem_map.mp hx
    rw [e] at z; cases z
end
section
variable {X : Cx} {ta : Ta}
theorem tup_best (hc : X.calm = true) {pins : List (Addr × Obj)} {s : Shared} {σ : L2.St} {H : Hp} {a : Addr} {vs : List V} {us : List Value} {ns : List Int} {Q : VK} (I : Inv X pins σ H s) (hu : X.A.units + 80 < cLine) (rx : Vals [.ref a] us) (q : SqT X.K H a vs)
    (e : vs = ns.map V.int) : (∀ M, maxL ns = some M → Q (.int M) H → wpAny (model X.prog X.w) X.A (call (.builtin "max") us) (EP X pins σ Q) X.xe s) ∧ (∀ M, minL ns = some M → Q (.int M) H → wpAny (model X.prog X.w) X.A (call (.builtin "min") us) (EP X pins σ Q) X.xe s) := by
  subst e
  obtain ⟨its, rv, ht, hz⟩ := I.tuple q
  rw [Vals.ref1 rx]
  have hall : DpAll X.K H (ns.map V.int) (ns.map PyData.int) := by
    clear rv q hz
    induction ns with
    | nil => exact .nil
    | cons n ns ih => exact .cons (.int n) ih
  obtain ⟨as, hr⟩ := Dp.readsAll I (ns.map PyData.int) _ its hall rv
  have h0 := I.ok.hd hc
  cases ns with
  | nil => exact ⟨(fun M h => by cases h), (fun M h => by cases h)⟩
  | cons n ns =>
    have dp : PyData.depthAll (PyData.int n :: ns.map PyData.int) = 0 := depth_int (n :: ns)
    have fin : ∀ {i : Nat} {v : Value} {h' : Heap} {tk : Nat} {bs : List Addr} {M : Int}, Reads h' v (.int M) bs → (∀ b o, s.heap.get? b = some o → h'.get? b = some o) → Q (.int M) H → EP X pins σ Q v { s with heap := h', toks := tk } := fun {i v h' tk bs M} rd k qq => by
      cases rd
      exact ⟨.int M, H, I.kept k, ⟨_, rfl⟩, qq⟩
    refine ⟨fun M h hq => ?_, fun M h hq => ?_⟩
    · have h' : ns.foldl max n = M := Option.some.inj h
      refine PySem.W.max_tuple_data h0 (show s.heap.IsTuple a its.toArray from ht) (x := .int n) (xs := ns.map PyData.int) (by simpa using hr) (alike_int (n :: ns)) (by rw [dp]; omega) fun i v h2 tk bs hv rd k => ?_
      rw [PySem.W.maxD_ints, h'] at rd
      exact fin (i := i) rd k hq
    · have h' : ns.foldl min n = M := Option.some.inj h
      refine PySem.W.min_tuple_data h0 (show s.heap.IsTuple a its.toArray from ht) (x := .int n) (xs := ns.map PyData.int) (by simpa using hr) (alike_int (n :: ns)) (by rw [dp]; omega) fun i v h2 tk bs hv rd k => ?_
      rw [PySem.W.minD_ints, h'] at rd
      exact fin (i := i) rd k hq
theorem bl_run (hc : X.calm = true) (hu : X.A.units + 80 < cLine) (b : Bl) (h1 : b ≠ .sorted) (h2 : b ≠ .bitlen) : CallR X (blV b) (rBlt X.K ta b) := by
  intro pins s σ H xs us Q I rx ⟨S, τ, rs, r, hs, ht, u, e, p⟩
  generalize hd : rs.map (·.d) = dd at e
  unfold bltD at e
  split at e
  · cases e
    obtain ⟨x, r1, rfl, e1, u1⟩ := u.one hd
    obtain ⟨a, vs, rfl, e2, e3⟩ := u1.tup e1
    exact call_len_seq pins s σ H _ us Q I rx ⟨a, vs, rfl, .inr (Same.seqT hs e2), p.here hs ht (by rw [e3.length]; exact rfl)⟩
  · cases e
    obtain ⟨x, r1, rfl, e1, u1⟩ := u.one hd
    obtain ⟨a, vs, rfl, e2, e3⟩ := u1.lst hs e1
    exact call_len_seq pins s σ H _ us Q I rx ⟨a, vs, rfl, .inl (SqL.of e2), p.here hs ht (by rw [e3.length]; exact rfl)⟩
  · cases e
    obtain ⟨x, r1, rfl, e1, u1⟩ := u.one hd
    exact call_abs pins s σ H _ us Q I rx ⟨_, by rw [u1.int e1], p.here hs ht rfl⟩
  · cases e
    obtain ⟨x, y, r1, r2, rfl, e1, e2, u1, u2⟩ := u.two hd
    exact call_min2 hc pins s σ H _ us Q I rx ⟨_, _, by rw [u1.int e1, u2.int e2], p.here hs ht rfl⟩
  · cases e
    obtain ⟨x, y, r1, r2, rfl, e1, e2, u1, u2⟩ := u.two hd
    exact call_max2 hc pins s σ H _ us Q I rx ⟨_, _, by rw [u1.int e1, u2.int e2], p.here hs ht rfl⟩
  · obtain ⟨ns, en, e⟩ := bind_some e
    obtain ⟨M, em, e⟩ := map_some e
    cases e
    obtain ⟨x, r1, rfl, e1, u1⟩ := u.one hd
    obtain ⟨a, vs, rfl, e2, e3⟩ := u1.lst hs e1
    have ev := e3.ints en
    subst ev
    obtain ⟨b1, b2⟩ := maxL_best em
    refine cr_max hc pins s σ H _ us Q I rx ⟨a, ns, rfl, SqL.of e2, List.length_pos_of_mem b1, fun m m1 m2 => ?_⟩
    have : m = M := by have := b2 m m1; have := m2 M b1; omega
    subst this
    exact p.here hs ht rfl
  · obtain ⟨ns, en, e⟩ := bind_some e
    obtain ⟨M, em, e⟩ := map_some e
    cases e
    obtain ⟨x, r1, rfl, e1, u1⟩ := u.one hd
    obtain ⟨a, vs, rfl, e2, e3⟩ := u1.lst hs e1
    have ev := e3.ints en
    subst ev
    obtain ⟨b1, b2⟩ := minL_best em
    refine cr_min hc pins s σ H _ us Q I rx ⟨a, ns, rfl, SqL.of e2, List.length_pos_of_mem b1, fun m m1 m2 => ?_⟩
    have : m = M := by have := b2 m m1; have := m2 M b1; omega
    subst this
    exact p.here hs ht rfl
  · obtain ⟨ns, en, e⟩ := bind_some e
    obtain ⟨M, em, e⟩ := map_some e
    cases e
    obtain ⟨x, r1, rfl, e1, u1⟩ := u.one hd
    obtain ⟨a, vs, rfl, e2, e3⟩ := u1.tup e1
    exact (tup_best hc I hu rx (Same.seqT hs e2) (e3.ints en)).1 M em (p.here hs ht rfl)
  · obtain ⟨ns, en, e⟩ := bind_some e
    obtain ⟨M, em, e⟩ := map_some e
    cases e
    obtain ⟨x, r1, rfl, e1, u1⟩ := u.one hd
    obtain ⟨a, vs, rfl, e2, e3⟩ := u1.tup e1
    exact (tup_best hc I hu rx (Same.seqT hs e2) (e3.ints en)).2 M em (p.here hs ht rfl)
  · cases e
    obtain ⟨x, r1, rfl, e1, u1⟩ := u.one hd
    exact call_int1 pins s σ H _ us Q I rx (.inl ⟨_, by rw [u1.int e1], p.here hs ht rfl⟩)
  · cases e
    obtain ⟨x, r1, rfl, e1, u1⟩ := u.one hd
    exact call_int1 pins s σ H _ us Q I rx (.inr ⟨_, by rw [u1.bool e1], p.here hs ht rfl⟩)
  · cases e
    obtain ⟨x, r1, rfl, e1, u1⟩ := u.one hd
    obtain ⟨a, vs, rfl, e2, e3⟩ := u1.lst hs e1
    exact call_tuple_of pins s σ H _ us Q I rx ⟨a, vs, rfl, .inl ⟨SqL.of e2, fun q n => p.tup hs ht e3 n⟩⟩
  · cases e
    obtain ⟨x, r1, rfl, e1, u1⟩ := u.one hd
    obtain ⟨a, vs, rfl, e2, e3⟩ := u1.tup e1
    exact call_tuple_of pins s σ H _ us Q I rx ⟨a, vs, rfl, .inr ⟨Same.seqT hs e2, p.here hs ht ⟨a, vs, rfl, e2, e3⟩⟩⟩
  · cases e
    obtain ⟨x, r1, rfl, e1, u1⟩ := u.one hd
    obtain ⟨a, vs, rfl, e2, e3⟩ := u1.lst hs e1
    exact call_list_of pins s σ H _ us Q I rx ⟨a, vs, rfl, .inl (SqL.of e2), fun q n => p.lst hs ht e3 n⟩
  · cases e
    obtain ⟨x, r1, rfl, e1, u1⟩ := u.one hd
    obtain ⟨a, vs, rfl, e2, e3⟩ := u1.tup e1
    exact call_list_of pins s σ H _ us Q I rx ⟨a, vs, rfl, .inr (Same.seqT hs e2), fun q n => p.lst hs ht e3 n⟩
  · obtain ⟨ns, en, e⟩ := map_some e
    cases e
    obtain ⟨x, r1, rfl, e1, u1⟩ := u.one hd
    obtain ⟨a, vs, rfl, e2, e3⟩ := u1.lst hs e1
    have ev := e3.ints en
    subst ev
    exact cr_sum hc pins s σ H _ us Q I rx ⟨a, ns, rfl, SqL.of e2, p.here hs ht rfl⟩
  · obtain ⟨ns, en, e⟩ := map_some e
    cases e
    obtain ⟨x, r1, rfl, e1, u1⟩ := u.one hd
    obtain ⟨a, vs, rfl, e2, e3⟩ := u1.lst hs e1
    have ev := e3.bools en
    subst ev
    exact cr_any hc pins s σ H _ us Q I rx ⟨a, ns, rfl, SqL.of e2, p.here hs ht rfl⟩
  · obtain ⟨ns, en, e⟩ := map_some e
    cases e
    obtain ⟨x, r1, rfl, e1, u1⟩ := u.one hd
    obtain ⟨a, vs, rfl, e2, e3⟩ := u1.lst hs e1
    have ev := e3.bools en
    subst ev
    exact cr_all hc pins s σ H _ us Q I rx ⟨a, ns, rfl, SqL.of e2, p.here hs ht rfl⟩
  · exact absurd rfl h2
  · cases e
end

/-! ### what is walked -/
section
variable {K : PySem.W.Frag} {ta : Ta}
/-- J yields ds; nb: what it walks is stable -/
def WalkOk (K : PySem.W.Frag) (ta : Ta) (nb : Bool) (J : It) (S H : Hp) (ds : List D) : Prop :=
  (∃ lo n, J = Itr lo n ∧ ds = rngD lo n) ∨ (∃ a vs, J = Itl K a ∧ H a = some (.lst vs) ∧ ta.a ≠ some a ∧ RpAll K S vs ds ∧ (nb = true → S a = some (.lst vs))) ∨ (∃ a vs, J = Itt K a ∧ SqT K S a vs ∧ RpAll K S vs ds)
def tIt (K : PySem.W.Frag) (ta : Ta) (Φ : Nat → List D → Option R) (Ψ : Nat → List D → Tp → Option (R × Tp)) (k : Nat) (its : List E) : TI := fun σ H Q => ∃ S ρ τ rs τ' ds, Rel K ta ρ S σ H ∧ TpOk K ta S H τ ∧ evs Φ Ψ ρ τ its = some (rs, τ') ∧ itD k (rs.map (·.d)) = some ds ∧
  ∀ J S' H', Stp K ta τ' S H S' H' → WalkOk K ta (!rs.any (fun r => r.k == .B)) J S' H' ds → Q J H'
theorem rngD_get : ∀ (n : Nat) (lo : Int) (i : Nat), i < n → (rngD lo n)[i]? = some (.int (lo + i))
  | n + 1, lo, 0, _ => by simp [rngD]
  | n + 1, lo, i + 1, h => by
    simp only [rngD, List.getElem?_cons_succ]
    rw [rngD_get n (lo + 1) i (by omega)]
    congr 2
    push_cast
    omega
theorem rngD_len : ∀ (n : Nat) (lo : Int), (rngD lo n).length = n
  | 0, _ => rfl
  | n + 1, lo => by simp [rngD, rngD_len n]
end
section
variable {X : Cx} {ta : Ta} {Φ : Nat → List D → Option R} {Ψ : Nat → List D → Tp → Option (R × Tp)} {tg e a b : Expr} {ca cb : E}
theorem PI.weak {t t' : TI} (h : PI X tg e t) (w : ∀ σ H Q, t' σ H Q → t σ H Q) : PI X tg e t' := ⟨fun pins s σ H Q I q => h.run pins s σ H Q I (w _ _ _ q)⟩
/-- a list or a tuple is walked -/
theorem pi_seq {tl : TE} (hl : PE X e tl) : PI X tg e (fun σ H Q => tl σ H fun x H1 => ∃ a, x = .ref a ∧ (((∃ xs, SqL X.K H1 a xs) ∧ Q (Itl X.K a) H1) ∨ ((∃ xs, SqT X.K H1 a xs) ∧ Q (Itt X.K a) H1))) := by
  constructor
  intro pins s σ H Q I h
  apply thn (hl.run pins s σ H _ I h)
  rintro v s1 ⟨x, H1, I1, r1, a, rfl, q⟩
  cases r1
  have free : H1 s1.heap.objs.size = none := I1.hok.fresh (Nat.le_refl _)
  have young : ∀ b ∈ [s1.heap.objs.size], FpOk X pins H1 b := by
    intro b hb
    rw [List.mem_singleton.mp hb]
    exact I1.fpOk (Nat.le_refl _) free
  rcases q with ⟨⟨xs, hq⟩, q⟩ | ⟨⟨xs, hq⟩, q⟩
  · obtain ⟨its, rv, pl, _⟩ := I1.list hq
    apply wpAny_pyIter_list pl.isList
    exact ⟨_, _, _, _, H1, rfl, I1.kept (t' := s1.toks) (fun b o z => Heap.get?_push_of_some _ z), turn_list a _, ⟨_, Heap.get?_push_size _ rfl, rfl, rfl⟩, young, q⟩
  · obtain ⟨its, rv, pl, _⟩ := I1.tuple hq
    apply wpAny_pyIter_tuple (items := its.toArray) pl
    exact ⟨_, _, _, _, H1, rfl, I1.kept (t' := s1.toks) (fun b o z => Heap.get?_push_of_some _ z), turn_tuple a _, ⟨_, Heap.get?_push_size _ rfl, rfl, rfl⟩, young, q⟩
theorem lst2 {K : PySem.W.Frag} {S1 H1 : Hp} {v : V} {r : R} {τ : Tp} {ds : List D} (u : UV K ta S1 H1 v r) (s : Same S1 H1) (t : TpOk K ta S1 H1 τ) (e : r.d = .list ds) :
    ∃ p vs, v = .ref p ∧ H1 p = some (.lst vs) ∧ ta.a ≠ some p ∧ RpAll K S1 vs ds ∧ (r.k ≠ .B → S1 p = some (.lst vs)) := by
  obtain ⟨k, d⟩ := r
  have e' : d = .list ds := e
  subst e'
  have go : Rp K S1 v (.list ds) → ∃ p vs, v = .ref p ∧ H1 p = some (.lst vs) ∧ ta.a ≠ some p ∧ RpAll K S1 vs ds ∧ S1 p = some (.lst vs) := fun ⟨p, vs, e1, e2, e3⟩ =>
    ⟨p, vs, e1, s _ _ e2, (fun z => by have := (t p z).1; rw [e2] at this; cases this), e3, e2⟩
  cases k with
  | S => obtain ⟨p, vs, e1, e2, e3, e4, e5⟩ := go u; exact ⟨p, vs, e1, e2, e3, e4, fun _ => e5⟩
  | F => obtain ⟨p, vs, e1, e2, e3, e4, e5⟩ := go u; exact ⟨p, vs, e1, e2, e3, e4, fun _ => e5⟩
  | B =>
    obtain ⟨p, ds', vs, e1, e2, e3, e4, e5⟩ := u
    cases e1
    exact ⟨p, vs, e2, e3, e5, e4, fun z => absurd rfl z⟩
theorem i_seq (ha : PE X a (tE X.K ta Φ Ψ ca)) : PI X tg a (tIt X.K ta Φ Ψ 0 [ca]) :=
  PI.weak (pi_seq ha.use) fun σ H Q ⟨S, ρ, τ, rs, τ', ds, hR, hT, he, hi, hQ⟩ => by
    simp only [evs] at he
    obtain ⟨x, hx, he⟩ := bind_some he
    obtain ⟨y, hy, he⟩ := map_some he
    cases hy
    cases he
    refine one_ok hR hT hx fun vx S1 H1 st u => ?_
    simp only [List.map_cons, List.map_nil] at hi
    cases q : x.1.d <;> rw [q] at hi <;> simp only [itD] at hi <;> first | cases hi | skip
    · obtain ⟨p, vs, rfl, e2, nt, e3, e4⟩ := lst2 u st.sub st.tape q
      refine ⟨p, rfl, .inl ⟨⟨vs, SqL.of e2⟩, hQ _ S1 H1 st (.inr (.inl ⟨p, vs, rfl, e2, nt, e3, fun nb => e4 fun z => ?_⟩))⟩⟩
      rw [List.any_cons, z] at nb
      cases nb
    · obtain ⟨p, vs, rfl, e2, e3⟩ := u.tup q
      exact ⟨p, rfl, .inr ⟨⟨vs, Same.seqT st.sub e2⟩, hQ _ S1 H1 st (.inr (.inr ⟨p, vs, rfl, e2, e3⟩))⟩⟩
theorem itD_one : ∀ {dd ds : List D}, itD 1 dd = some ds → ∃ j, dd = [.int j] ∧ rngFits 0 j = true ∧ ds = rngD 0 j.toNat
  | [], _, h => by simp [itD] at h
  | [d], _, h => by
    cases d <;> simp [itD] at h
    exact ⟨_, rfl, h.1, h.2.symm⟩
  | _ :: _ :: _, _, h => by simp [itD] at h
theorem itD_two : ∀ {dd ds : List D}, itD 2 dd = some ds → ∃ i j, dd = [.int i, .int j] ∧ rngFits i j = true ∧ ds = rngD i (j - i).toNat
  | [], _, h => by simp [itD] at h
  | [d], _, h => by simp [itD] at h
  | [d, e], _, h => by
    cases d <;> cases e <;> simp [itD] at h
    exact ⟨_, _, rfl, h.1, h.2.symm⟩
  | _ :: _ :: _ :: _, _, h => by simp [itD] at h
theorem i_rng1 {p pos : Pos} (hg : Gl X "range") (hm : X.mg "range" = none) (ha : PA X [a] (tAs X.K ta Φ Ψ [ca])) (hs : starEach [a] X.env = [(false, eval a X.env)]) : PI X tg (.Call (.Name "range" p) [a] [] pos) (tIt X.K ta Φ Ψ 1 [ca]) :=
  PI.weak (pi_range1 hg hm ha hs) fun σ H Q ⟨S, ρ, τ, rs, τ', ds, hR, hT, he, hi, hQ⟩ => by
    refine ⟨S, ρ, τ, rs, τ', hR, hT, he, fun vs S1 H1 st u => ?_⟩
    obtain ⟨j, hd, hf, rfl⟩ := itD_one hi
    obtain ⟨x, r1, rfl, e1, u1⟩ := u.one hd
    simp only [rngFits, Bool.and_eq_true, decide_eq_true_eq] at hf
    have ex := u1.int e1
    subst ex
    exact ⟨j, rfl, by omega, by omega, hQ _ S1 H1 st (.inl ⟨0, j.toNat, rfl, rfl⟩)⟩
theorem i_rng2 {p pos : Pos} (hg : Gl X "range") (hm : X.mg "range" = none) (ha : PA X [a, b] (tAs X.K ta Φ Ψ [ca, cb])) (hs : starEach [a, b] X.env = [(false, eval a X.env), (false, eval b X.env)]) (hs2 : starEach [b] X.env = [(false, eval b X.env)]) :
    PI X tg (.Call (.Name "range" p) [a, b] [] pos) (tIt X.K ta Φ Ψ 2 [ca, cb]) :=
  PI.weak (pi_range2 hg hm ha hs hs2) fun σ H Q ⟨S, ρ, τ, rs, τ', ds, hR, hT, he, hi, hQ⟩ => by
    refine ⟨S, ρ, τ, rs, τ', hR, hT, he, fun vs S1 H1 st u => ?_⟩
    obtain ⟨i, j, hd, hf, rfl⟩ := itD_two hi
    obtain ⟨x, y, r1, r2, rfl, e1, e2, u1, u2⟩ := u.two hd
    simp only [rngFits, Bool.and_eq_true, decide_eq_true_eq] at hf
    have ex := u1.int e1
    have ey := u2.int e2
    subst ex ey
    exact ⟨i, j, rfl, by omega, hQ _ S1 H1 st (.inl ⟨i, (j - i).toNat, rfl, rfl⟩)⟩

/-! ### targets -/
def gNms : List Nat → TGs
  | [] => gNil
  | i :: is => gCons (gName i) (gNms is)
def gT (K : PySem.W.Frag) : Tg → TG
  | .nm i => gName i
  | .tu is => gTup K is.length (gNms is)
theorem Rel.put {K : PySem.W.Frag} {ρ : Rho} {S H : Hp} {σ : L2.St} {i : Nat} {v : V} {d : D} (R : Rel K ta ρ S σ H) (h : Rp K S v d) : Rel K ta (ρ.set i (.im d)) S (σ.set i (some v)) H := by
  refine ⟨by simp [R.len], R.sub, fun j s e => ?_, fun j l dj dl p e1 e2 e3 e4 => ?_⟩
  · by_cases hj : j = i
    · subst hj
      have hl : j < ρ.length := by
        have := (List.getElem?_eq_some_iff.mp e).1
        simpa using this
      rw [List.getElem?_set_self hl] at e
      cases e
      exact ⟨v, by rw [List.getElem?_set_self (by rw [← R.len]; exact hl)]; rfl, h⟩
    · rw [List.getElem?_set_ne (Ne.symm hj)] at e
      rw [List.getElem?_set_ne (Ne.symm hj)]
      exact R.slot j s e
  · have nj : j ≠ i := fun z => by
      subst z
      have hl : j < ρ.length := by
        have := (List.getElem?_eq_some_iff.mp e1).1
        simpa using this
      rw [List.getElem?_set_self hl] at e1
      cases e1
    have nl : l ≠ i := fun z => by
      subst z
      have hl : l < ρ.length := by
        have := (List.getElem?_eq_some_iff.mp e2).1
        simpa using this
      rw [List.getElem?_set_self hl] at e2
      cases e2
    rw [List.getElem?_set_ne (Ne.symm nj)] at e1 e3
    rw [List.getElem?_set_ne (Ne.symm nl)] at e2 e4
    exact R.dist j l dj dl p e1 e2 e3 e4
theorem Rel.unset {K : PySem.W.Frag} {ρ : Rho} {S H : Hp} {σ : L2.St} {i : Nat} (R : Rel K ta ρ S σ H) : Rel K ta (ρ.set i .un) S (σ.set i none) H := by
  refine ⟨by simp [R.len], R.sub, fun j s e => ?_, fun j l dj dl p e1 e2 e3 e4 => ?_⟩
  · by_cases hj : j = i
    · subst hj
      have hl : j < ρ.length := by
        have := (List.getElem?_eq_some_iff.mp e).1
        simpa using this
      rw [List.getElem?_set_self hl] at e
      cases e
      trivial
    · rw [List.getElem?_set_ne (Ne.symm hj)] at e
      rw [List.getElem?_set_ne (Ne.symm hj)]
      exact R.slot j s e
  · have nj : j ≠ i := fun z => by
      subst z
      have hl : j < ρ.length := by
        have := (List.getElem?_eq_some_iff.mp e1).1
        simpa using this
      rw [List.getElem?_set_self hl] at e1
      cases e1
    have nl : l ≠ i := fun z => by
      subst z
      have hl : l < ρ.length := by
        have := (List.getElem?_eq_some_iff.mp e2).1
        simpa using this
      rw [List.getElem?_set_self hl] at e2
      cases e2
    rw [List.getElem?_set_ne (Ne.symm nj)] at e1 e3
    rw [List.getElem?_set_ne (Ne.symm nl)] at e2 e4
    exact R.dist j l dj dl p e1 e2 e3 e4
theorem Rel.wipe {K : PySem.W.Frag} {ρ : Rho} {S H : Hp} {σ : L2.St} (R : Rel K ta ρ S σ H) : ∀ vs : List Nat, Rel K ta (wipeR ρ vs) S (wipe σ vs) H
  | [] => R
  | v :: vs => (Rel.wipe R vs).unset
/-- several names take the items of a tuple -/
theorem sets_ok {K : PySem.W.Frag} {S H : Hp} {Q : L2.St → Hp → Prop} : ∀ {is : List Nat} {ds : List D} {vs : List V} {ρ ρ1 : Rho} {σ : L2.St}, Rel K ta ρ S σ H → RpAll K S vs ds → setsD ρ is ds = some ρ1 →
    (∀ σ1, Rel K ta ρ1 S σ1 H → (∀ j, j ∉ is → σ1[j]? = σ[j]?) → σ1.length = σ.length → Q σ1 H) → gNms is vs σ H Q
  | [], [], vs, ρ, ρ1, σ, R, h, e, hQ => by cases h; cases e; exact ⟨rfl, hQ σ R (fun _ _ => rfl) rfl⟩
  | i :: is, d :: ds, vs, ρ, ρ1, σ, R, ⟨x, r, e1, e2, e3⟩, e, hQ => by
    subst e1
    refine ⟨x, r, rfl, sets_ok (R.put e2) e3 e fun σ1 R1 h1 h2 => hQ σ1 R1 (fun j hj => ?_) (by rw [h2, List.length_set])⟩
    simp only [List.mem_cons, not_or] at hj
    rw [h1 j hj.2, List.getElem?_set_ne (Ne.symm hj.1)]
  | [], _ :: _, _, _, _, _, _, _, e, _ => by cases e
  | _ :: _, [], _, _, _, _, _, _, e, _ => by cases e
theorem sets_len : ∀ {is : List Nat} {ds : List D} {ρ ρ1 : Rho}, setsD ρ is ds = some ρ1 → ds.length = is.length
  | [], [], _, _, _ => rfl
  | i :: is, d :: ds, _, _, e => by simp [sets_len (is := is) (ds := ds) e]
  | [], _ :: _, _, _, e => by cases e
  | _ :: _, [], _, _, e => by cases e
theorem tg_ok {K : PySem.W.Frag} {S H : Hp} {Q : L2.St → Hp → Prop} {tg : Tg} {d : D} {v : V} {ρ ρ1 : Rho} {σ : L2.St} (R : Rel K ta ρ S σ H) (h : Rp K S v d) (e : tgD ρ tg d = some ρ1)
    (hQ : ∀ σ1, Rel K ta ρ1 S σ1 H → (∀ j, j ∉ tgVs tg → σ1[j]? = σ[j]?) → σ1.length = σ.length → Q σ1 H) : gT K tg v σ H Q := by
  cases tg with
  | nm i =>
    cases e
    refine hQ _ (R.put h) (fun j hj => ?_) (by simp)
    rw [List.getElem?_set_ne]
    intro z
    subst z
    exact hj List.mem_cons_self
  | tu is =>
    cases d <;> simp only [tgD] at e <;> first | cases e | skip
    rename_i ds
    obtain ⟨p, vs, rfl, e2, e3⟩ := h
    exact ⟨p, vs, rfl, Same.seqT R.sub e2, by rw [e3.length, sets_len e], sets_ok R e3 e hQ⟩
end
end Ev

/-! ## Ev7 -/
namespace Ev
open PySem PySem.Spec PyProof.Rows L2

section
variable {X : Cx} {ta : Ta} {Φ : Nat → List D → Option R} {Ψ : Nat → List D → Tp → Option (R × Tp)} {tg e a b : Expr} {ca cb : E} {x : Str} {p pos : Pos} {es : List Expr} {cs : List E}
theorem blt_data {b : Bl} {σ : L2.St} {H : Hp} {Q : VK} {S : Hp} {ρ : Rho} {τ τ' : Tp} {r : R} (hR : Rel X.K ta ρ S σ H) (hT : TpOk X.K ta S H τ) (he : ev Φ Ψ ρ τ (.blt b cs) = some (r, τ')) (hQ : Post X.K ta S H τ' r Q) :
    tCB (rBlt X.K ta b) (tAs X.K ta Φ Ψ cs) σ H Q := by
  simp only [ev] at he
  obtain ⟨x, hx, he⟩ := bind_some he
  obtain ⟨y, hy, he⟩ := map_some he
  cases he
  exact ⟨S, ρ, τ, x.1, x.2, hR, hT, hx, fun vs S1 H1 st u => ⟨S1, x.2, x.1, _, st.sub, st.tape, u, hy, Post.later hQ st⟩⟩
theorem e_blB {b : Bl} {id : String} (hb : blV b = .builtin id) (hc : X.calm = true) (hu : X.A.units + 80 < cLine) (h1 : b ≠ .sorted) (h2 : b ≠ .bitlen) (hg : Gl X x) (hm : X.mg x = none) (hv : bootBuiltins x = some (.builtin id)) (ha : PA X (e :: es) (tAs X.K ta Φ Ψ cs)) (hn : x ≠ "__name__") (hdb : (x == ("__debug__" : Str)) = false)
    (he : starEach (e :: es) X.env = (false, eval e X.env) :: starEach es X.env) (hpl : (backTo pos (starEach es X.env)).any (·.1) = false) : PE X (.Call (.Name x p) (e :: es) [] pos) (tE X.K ta Φ Ψ (.blt b cs)) :=
  PE.weak (pe_callB (r := rBlt X.K ta b) (by rw [← hb]; exact bl_run hc hu b h1 h2) hg hm hv ha hn hdb he hpl) fun σ H Q ⟨S, ρ, τ, r, τ', hR, hT, he, hQ⟩ => blt_data hR hT he hQ
theorem e_blT {b : Bl} {id : String} (hb : blV b = .type id) (hc : X.calm = true) (hu : X.A.units + 80 < cLine) (h1 : b ≠ .sorted) (h2 : b ≠ .bitlen) (hg : Gl X x) (hm : X.mg x = none) (hv : bootBuiltins x = some (.type id)) (ha : PA X (e :: es) (tAs X.K ta Φ Ψ cs)) (hn : x ≠ "__name__") (hdb : (x == ("__debug__" : Str)) = false)
    (he : starEach (e :: es) X.env = (false, eval e X.env) :: starEach es X.env) (hpl : (backTo pos (starEach es X.env)).any (·.1) = false) : PE X (.Call (.Name x p) (e :: es) [] pos) (tE X.K ta Φ Ψ (.blt b cs)) :=
  PE.weak (pe_callTy (r := rBlt X.K ta b) (by rw [← hb]; exact bl_run hc hu b h1 h2) hg hm hv ha hn hdb he hpl) fun σ H Q ⟨S, ρ, τ, r, τ', hR, hT, he, hQ⟩ => blt_data hR hT he hQ
theorem e_bits {o : Expr} {apos : Pos} (ho : PE X o (tE X.K ta Φ Ψ ca)) (hbase : attributeBase o "bit_length" X.env (eval o X.env) = eval o X.env) (hline : (apos.endLine == pos.line) = true) : PE X (.Call (.Attribute o "bit_length" apos) [] [] pos) (tE X.K ta Φ Ψ (.blt .bitlen [ca])) :=
  PE.weak (pe_bits ho.use hbase hline) fun σ H Q ⟨S, ρ, τ, r, τ', hR, hT, he, hQ⟩ => by
    simp only [ev, evs] at he
    obtain ⟨x, hx, he⟩ := bind_some he
    obtain ⟨x1, hx1, hx⟩ := bind_some hx
    obtain ⟨y, hy, hx⟩ := map_some hx
    cases hy
    cases hx
    obtain ⟨z, hz, he⟩ := map_some he
    cases he
    refine one_ok hR hT hx1 fun vx S1 H1 st u => ?_
    simp only [List.map_cons, List.map_nil] at hz
    cases q : x1.1.d <;> rw [q] at hz <;> simp only [bltD] at hz <;> first | cases hz | skip
    exact ⟨_, u.int q, hQ _ S1 H1 st rfl⟩

/-! ### comprehensions -/
def tAll (K : PySem.W.Frag) (ta : Ta) (Φ : Nat → List D → Option R) (Ψ : Nat → List D → Tp → Option (R × Tp)) (cs : List E) : TT := fun σ H Q => ∃ S ρ τ b τ', Rel K ta ρ S σ H ∧ TpOk K ta S H τ ∧ evAll Φ Ψ ρ τ cs = some (b, τ') ∧ ∀ S' H', Stp K ta τ' S H S' H' → Q b H'
theorem PTs.weak {ifs : List Expr} {t t' : TT} (h : PTs X ifs t) (w : ∀ σ H Q, t' σ H Q → t σ H Q) : PTs X ifs t' := ⟨fun pins s σ H Q I q => h.run pins s σ H Q I (w _ _ _ q)⟩
theorem c_nil : PTs X [] (tAll X.K ta Φ Ψ []) := PTs.weak pts_nil fun σ H Q ⟨S, ρ, τ, b, τ', hR, hT, he, hQ⟩ => by
  simp only [evAll] at he
  cases he
  exact hQ S H (Stp.refl hR.sub hT)
theorem c_one (h : PT X e (tT X.K ta Φ Ψ ca)) : PTs X [e] (tAll X.K ta Φ Ψ [ca]) := PTs.weak (pts_one h) fun σ H Q ⟨S, ρ, τ, b, τ', hR, hT, he, hQ⟩ => by
  simp only [evAll] at he
  obtain ⟨x, hx, he⟩ := bind_some he
  split at he
  · rename_i q
    cases he
    exact ⟨S, ρ, τ, x.1, x.2, true, hR, hT, hx, q, hQ⟩
  · rename_i q
    cases he
    exact ⟨S, ρ, τ, x.1, x.2, false, hR, hT, hx, q, hQ⟩
  · cases he
theorem wipe_eq : ∀ (vs : List Nat) {σ σ' : L2.St}, σ'.length = σ.length → (∀ j, j ∉ vs → σ'[j]? = σ[j]?) → wipe σ' vs = wipe σ vs := by
  have get : ∀ (vs : List Nat) (σ : L2.St) (j : Nat), (wipe σ vs)[j]? = if j ∈ vs then (if j < σ.length then some none else none) else σ[j]? := by
    intro vs
    induction vs with
    | nil => intro σ j; rfl
    | cons v vs ih =>
      intro σ j
      show ((wipe σ vs).set v none)[j]? = _
      by_cases hj : j = v
      · subst hj
        rw [if_pos List.mem_cons_self]
        by_cases hl : j < σ.length
        · rw [if_pos hl, List.getElem?_set_self (by rw [wipe_length]; exact hl)]
        · rw [if_neg hl, List.getElem?_eq_none]
          rw [List.length_set, wipe_length]
          omega
      · rw [List.getElem?_set_ne (Ne.symm hj), ih]
        simp [hj]
  intro vs σ σ' hl h
  apply List.ext_getElem?
  intro j
  rw [get, get, hl]
  split
  · rfl
  · rename_i hj
    exact h j hj
theorem Stp.grow {K : PySem.W.Frag} {τ : Tp} {S H S1 H2 : Hp} {D : Addr} (a : Stp K ta τ S H S1 (del H2 D)) : Stp K ta τ S H S1 H2 where
  same := a.same
  sub := a.sub.trans del_sub
  gro := fun b o n e => del_sub _ _ (a.gro b o n e)
  nn := a.nn
  tape := fun b e => ⟨(a.tape b e).1, del_sub _ _ (a.tape b e).2.1, (a.tape b e).2.2⟩
theorem comp_data {elt : E} {tg : Tg} {k : Nat} {its cond : List E} {σ : L2.St} {H : Hp} {Q : VK} {S : Hp} {ρ : Rho} {τ τ' : Tp} {r : R} (hR : Rel X.K ta ρ S σ H) (hT : TpOk X.K ta S H τ) (he : ev Φ Ψ ρ τ (.comp elt tg k its cond) = some (r, τ')) (hQ : Post X.K ta S H τ' r Q) :
    tLc (tIt X.K ta Φ Ψ k its) (gT X.K tg) (tAll X.K ta Φ Ψ cond) (tU X.K ta Φ Ψ elt) (tgVs tg) σ H Q := by
  simp only [ev] at he
  obtain ⟨x, hx, he⟩ := bind_some he
  obtain ⟨ds, hd, he⟩ := bind_some he
  obtain ⟨y, hy, he⟩ := bind_some he
  split at he
  · rename_i hc
    cases he
    refine ⟨S, ρ, τ, x.1, x.2, ds, hR, hT, hx, hd, fun J S1 H1 st1 wk D nD => ?_⟩
    generalize hfe : (fun ρ τ => ev Φ Ψ ρ τ elt) = fe at hy
    generalize hfc : (fun ρ τ => evAll Φ Ψ ρ τ cond) = fc at hy
    have nS : S1 D = none := st1.free' nD
    have nT : ta.a ≠ some D := st1.nta nD
    let Pv : Nat → Hp → Prop := fun i H' => ∃ S' τi acc vs rest, Stp X.K ta τi S1 H1 S' (del H' D) ∧ H' D = some (.lst vs) ∧ S' D = none ∧ RpAll X.K S' vs acc ∧ compL fe fc (wipeR ρ (tgVs tg)) tg (ds.drop i) τi = some (rest, y.2) ∧ y.1 = acc ++ rest
    have start : Pv 0 (upd H1 D (.lst [])) := ⟨S1, x.2, [], [], y.1, by rw [del_upd, del_none nD]; exact Stp.refl st1.sub st1.tape, upd_same, nS, rfl, hy, rfl⟩
    have done : ∀ H', Pv ds.length H' → Q (.ref D) H' := fun H' ⟨S', τi, acc, vs, rest, st, hD, nD', hall, hl, hy'⟩ => by
      rw [List.drop_length] at hl
      unfold compL at hl
      cases hl
      rw [List.append_nil] at hy'
      have st2 := (st1.trans st).grow
      exact hQ (.ref D) S' H' st2 ⟨D, y.1, vs, rfl, rfl, hD, nD', st1.free nD, by rw [hy']; exact hall⟩
    have turn : ∀ (i : Nat) (d : Ev.D) (v : V) (H' : Hp), ds[i]? = some d → Pv i H' → (∀ S', Same S1 S' → Rp X.K S' v d) → gT X.K tg v (wipe σ (tgVs tg)) H' fun σ2 H2 => wipe σ2 (tgVs tg) = wipe σ (tgVs tg) ∧ tAll X.K ta Φ Ψ cond σ2 H2 fun b H3 =>
        if b = true then tU X.K ta Φ Ψ elt σ2 H3 fun y H4 => ∃ acc, H4 D = some (.lst acc) ∧ acc.length < sizeLine ∧ Pv (i + 1) (upd H4 D (.lst (acc ++ [y]))) else Pv (i + 1) H3 := by
      intro i d v H' hi ⟨S', τi, acc, vs, rest, st, hD, nD', hall, hl, hy'⟩ hv
      have hlt : i < ds.length := (List.getElem?_eq_some_iff.mp hi).1
      have hdrop : ds.drop i = d :: ds.drop (i + 1) := by
        rw [List.drop_eq_getElem_cons hlt]
        congr 1
        exact (List.getElem?_eq_some_iff.mp hi).2
      rw [hdrop] at hl
      unfold compL at hl
      obtain ⟨ρ1, hρ, hl⟩ := bind_some hl
      obtain ⟨c, hcc, hl⟩ := bind_some hl
      have stH := st.grow
      have relW : Rel X.K ta (wipeR ρ (tgVs tg)) S' (wipe σ (tgVs tg)) H' := ((hR.step st1).step stH).wipe _
      refine tg_ok relW (hv S' st.same) hρ fun σ1 R1 e1 e2 => ⟨?_, ?_⟩
      · have e3 : wipe σ1 (tgVs tg) = wipe (wipe σ (tgVs tg)) (tgVs tg) := wipe_eq (tgVs tg) e2 e1
        rw [e3]
        refine wipe_eq (tgVs tg) (wipe_length _ _) fun j hj => ?_
        exact wipe_out hj
      · refine ⟨S', ρ1, τi, c.1, c.2, R1, stH.tape, by rw [← hfc] at hcc; exact hcc, fun S3 H3 st3 => ?_⟩
        have nD3 : S3 D = none := st3.nn D vs nT hD nD'
        have hD3 : H3 D = some (.lst vs) := st3.gro D _ nT hD
        have del3 : ∀ {τ3 : Tp} {S3 H3 : Hp}, Stp X.K ta τ3 S' H' S3 H3 → S3 D = none → Stp X.K ta τ3 S1 H1 S3 (del H3 D) := fun {τ3 S3 H3} st3 n3 => st.trans ⟨st3.same, fun b o e => by
            have nb : b ≠ D := fun z => by rw [z, n3] at e; cases e
            rw [del_ne nb]; exact st3.sub b o e, fun b o n e => by
            have nb : b ≠ D := fun z => by rw [z, del_same] at e; cases e
            rw [del_ne nb] at e ⊢
            exact st3.gro b o n e, fun b xs n e z => st3.nn b xs n (del_sub _ _ e) z, fun b e => by
            have nb : b ≠ D := fun z => nT (by rw [← z]; exact e)
            obtain ⟨t1, t2, t3⟩ := st3.tape b e
            exact ⟨t1, by rw [del_ne nb]; exact t2, t3⟩⟩
        by_cases hb : c.1 = true
        · rw [if_pos hb] at hl
          obtain ⟨z, hz, hl⟩ := bind_some hl
          obtain ⟨w, hw, hl⟩ := bind_some hl
          obtain ⟨q, hq, hl⟩ := map_some hl
          have hl1 := congrArg Prod.fst hl
          have hl2 := congrArg Prod.snd hl
          simp only at hl1 hl2
          show if c.1 = true then _ else _
          rw [if_pos hb]
          refine ⟨S3, ρ1, c.2, z.1, z.2, R1.step st3, st3.tape, by rw [← hfe] at hz; exact hz, fun v4 S4 H4 st4 u4 => ?_⟩
          have st34 := st3.trans st4
          have nD4 : S4 D = none := st34.nn D vs nT hD nD'
          have hD4 : H4 D = some (.lst vs) := st34.gro D _ nT hD
          have rv : Rp X.K S4 v4 w := u4.st hw
          have hall4 : RpAll X.K S4 (vs ++ [v4]) (acc ++ [w]) := (RpAll.mono st34.same acc hall).append ⟨v4, [], rfl, rv, rfl⟩
          refine ⟨vs, hD4, lt_of ?_, S4, z.2, acc ++ [w], vs ++ [v4], q.1, by rw [del_upd]; exact del3 st34 nD4, upd_same, nD4, hall4, by rw [hq, ← hl2], ?_⟩
          · have h1 := of_decide_eq_true hc
            have h2 := hall.length
            rw [hy', ← hl1, List.length_append, List.length_cons] at h1
            omega
          · rw [hy', ← hl1, List.append_assoc]
            rfl
        · rw [if_neg hb] at hl
          show if c.1 = true then _ else _
          rw [if_neg hb]
          exact ⟨S3, c.2, acc, vs, rest, del3 st3 nD3, hD3, nD3, RpAll.mono st3.same acc hall, hl, hy'⟩
    rcases wk with ⟨lo, n, rfl, rfl⟩ | ⟨a, vs, rfl, ha, nta, hall, _⟩ | ⟨a, vs, rfl, ha, hall⟩
    · have hn := rngD_len n lo
      refine lc_range Pv start (fun i H' hi hP => turn i _ _ H' (rngD_get n lo i hi) hP fun _ _ => rfl) (by rw [hn] at done; exact done)
    · have hn := hall.length
      refine lc_list (xs := vs) Pv start (fun i H' _ ⟨S', τi, acc, vs', rest, st, _⟩ => SqL.of (del_sub _ _ (st.gro a _ nta ha))) (fun i x H' hi hP => ?_) (by rw [hn]; exact done)
      have hlt : i < ds.length := by rw [← hn]; exact (List.getElem?_eq_some_iff.mp hi).1
      obtain ⟨v, e1, e2⟩ := hall.get (List.getElem?_eq_getElem hlt)
      rw [hi] at e1
      cases e1
      exact turn i _ _ H' (List.getElem?_eq_getElem hlt) hP fun S' s => Rp.mono s _ e2
    · have hn := hall.length
      refine lc_tup (xs := vs) Pv start (fun i H' _ ⟨S', τi, acc, vs', rest, st, _⟩ => Same.seqT (st.same.trans (st.grow).sub) ha) (fun i x H' hi hP => ?_) (by rw [hn]; exact done)
      have hlt : i < ds.length := by rw [← hn]; exact (List.getElem?_eq_some_iff.mp hi).1
      obtain ⟨v, e1, e2⟩ := hall.get (List.getElem?_eq_getElem hlt)
      rw [hi] at e1
      cases e1
      exact turn i _ _ H' (List.getElem?_eq_getElem hlt) hP fun S' s => Rp.mono s _ e2
  · cases he
end
end Ev

/-! ## Ev8 -/
namespace Ev
open PySem PySem.Spec PyProof.Rows L2

def RetV (K : PySem.W.Frag) (ta : Ta) (S' H' : Hp) (v : V) (r : R) : Prop := match r.k with
  | .S => Rp K S' v r.d
  | .F => ∃ p ds vs, r.d = .list ds ∧ v = .ref p ∧ H' p = some (.lst vs) ∧ S' p = none ∧ RpAll K S' vs ds ∧ ta.a ≠ some p
  | .B => False
def OutP (K : PySem.W.Frag) (ta : Ta) (S : Hp) (D : Ends) : Out → Prop
  | .nx ρ τ => ∀ σ' H' S', Same S S' → Rel K ta ρ S' σ' H' → TpOk K ta S' H' τ → D.nx σ' H'
  | .bk ρ τ => ∀ σ' H' S', Same S S' → Rel K ta ρ S' σ' H' → TpOk K ta S' H' τ → D.bk σ' H'
  | .ct ρ τ => ∀ σ' H' S', Same S S' → Rel K ta ρ S' σ' H' → TpOk K ta S' H' τ → D.ct σ' H'
  | .rt r τ => ∀ v H' S', Same S S' → Same S' H' → TpOk K ta S' H' τ → RetV K ta S' H' v r → D.rt v H'
theorem OutP.mono {K : PySem.W.Frag} {ta : Ta} {S S1 : Hp} {D : Ends} {o : Out} (h : OutP K ta S D o) (s : Same S S1) : OutP K ta S1 D o := by
  cases o with
  | nx ρ τ => exact fun σ' H' S' s' => h σ' H' S' (s.trans s')
  | bk ρ τ => exact fun σ' H' S' s' => h σ' H' S' (s.trans s')
  | ct ρ τ => exact fun σ' H' S' s' => h σ' H' S' (s.trans s')
  | rt r τ => exact fun v H' S' s' => h v H' S' (s.trans s')
section
variable (K : PySem.W.Frag) (ta : Ta) (Φ : Nat → List D → Option R) (Ψ : Nat → List D → Tp → Option (R × Tp)) (N : Nat)
def tSt (c : S) : TS := fun D σ H => ∃ S ρ τ o, Rel K ta ρ S σ H ∧ TpOk K ta S H τ ∧ evS Φ Ψ N ρ τ c = some o ∧ OutP K ta S D o
def tSts (c : List S) : TS := fun D σ H => ∃ S ρ τ o, Rel K ta ρ S σ H ∧ TpOk K ta S H τ ∧ evSs Φ Ψ N ρ τ c = some o ∧ OutP K ta S D o
end
section
variable {K : PySem.W.Frag} {ta : Ta} {ρ : Rho} {S H : Hp} {σ : L2.St}
/-- a fresh list comes into a slot -/
theorem Rel.putOw {H0 S0 : Hp} {i : Nat} {p : Addr} {ds : List D} {vs : List V} (R0 : Rel K ta ρ S0 σ H0) (R : Rel K ta ρ S σ H) (n0 : H0 p = none) (nt : ta.a ≠ some p) (h : H p = some (.lst vs)) (n : S p = none) (ha : RpAll K S vs ds) :
    Rel K ta (ρ.set i (.ow ds)) S (σ.set i (some (.ref p))) H := by
  have other : ∀ (j : Nat) (dj : List D), ρ[j]? = some (.ow dj) → σ[j]? ≠ some (some (.ref p)) := fun j dj e z => by
    obtain ⟨p', vs', e1, e2, _⟩ := R0.slot j _ e
    have := getD_some e1
    rw [z] at this
    cases this
    rw [n0] at e2; cases e2
  refine ⟨by simp [R.len], R.sub, fun j s e => ?_, fun j l dj dl q e1 e2 e3 e4 => ?_⟩
  · by_cases hj : j = i
    · subst hj
      have hl : j < ρ.length := by simpa using (List.getElem?_eq_some_iff.mp e).1
      rw [List.getElem?_set_self hl] at e
      cases e
      exact ⟨p, vs, by rw [List.getElem?_set_self (by rw [← R.len]; exact hl)]; rfl, h, n, ha, nt⟩
    · rw [List.getElem?_set_ne (Ne.symm hj)] at e
      rw [List.getElem?_set_ne (Ne.symm hj)]
      exact R.slot j s e
  · by_cases hj : j = i
    · by_cases hl : l = i
      · rw [hj, hl]
      · subst hj
        have hlj : j < ρ.length := by simpa using (List.getElem?_eq_some_iff.mp e1).1
        rw [List.getElem?_set_self (by rw [← R.len]; exact hlj)] at e3
        cases e3
        rw [List.getElem?_set_ne (Ne.symm hl)] at e2 e4
        exact absurd e4 (other l dl e2)
    · by_cases hl : l = i
      · subst hl
        have hll : l < ρ.length := by simpa using (List.getElem?_eq_some_iff.mp e2).1
        rw [List.getElem?_set_self (by rw [← R.len]; exact hll)] at e4
        cases e4
        rw [List.getElem?_set_ne (Ne.symm hj)] at e1 e3
        exact absurd e3 (other j dj e1)
      · rw [List.getElem?_set_ne (Ne.symm hj)] at e1 e3
        rw [List.getElem?_set_ne (Ne.symm hl)] at e2 e4
        exact R.dist j l dj dl q e1 e2 e3 e4
/-- an owned list is changed -/
theorem Rel.mut {i : Nat} {p : Addr} {ds ds' : List D} {vs vs' : List V} (R : Rel K ta ρ S σ H) (hi : ρ[i]? = some (.ow ds)) (hp : σ[i]? = some (some (.ref p))) (n : S p = none) (nt : ta.a ≠ some p) (ha : RpAll K S vs' ds') :
    Rel K ta (ρ.set i (.ow ds')) S σ (upd H p (.lst vs')) := by
  have hl : i < ρ.length := (List.getElem?_eq_some_iff.mp hi).1
  refine ⟨by simp [R.len], fun b o e => ?_, fun j s e => ?_, fun j l dj dl q e1 e2 e3 e4 => ?_⟩
  · have nb : b ≠ p := fun z => by rw [z, n] at e; cases e
    rw [upd_ne nb]; exact R.sub b o e
  · by_cases hj : j = i
    · subst hj
      rw [List.getElem?_set_self hl] at e
      cases e
      exact ⟨p, vs', by rw [hp]; rfl, upd_same, n, ha, nt⟩
    · rw [List.getElem?_set_ne (Ne.symm hj)] at e
      have h := R.slot j s e
      cases s with
      | un => trivial
      | im d => exact h
      | tp => exact h
      | ow dj =>
        obtain ⟨q, ws, e1, e2, e3, e4, e5⟩ := h
        have nq : q ≠ p := fun z => by
          subst z
          exact hj (R.dist j i dj ds q e hi (getD_some e1) hp)
        exact ⟨q, ws, e1, by rw [upd_ne nq]; exact e2, e3, e4, e5⟩
  · have pre : ∀ (j : Nat) (dj : List D), (ρ.set i (.ow ds'))[j]? = some (.ow dj) → ∃ d0, ρ[j]? = some (.ow d0) := fun j dj e => by
      by_cases hj : j = i
      · subst hj; exact ⟨ds, hi⟩
      · rw [List.getElem?_set_ne (Ne.symm hj)] at e; exact ⟨dj, e⟩
    obtain ⟨d1, f1⟩ := pre j dj e1
    obtain ⟨d2, f2⟩ := pre l dl e2
    exact R.dist j l d1 d2 q f1 f2 e3 e4
theorem TpOk.mut {τ : Tp} {p : Addr} {o : HO} (t : TpOk K ta S H τ) (nt : ta.a ≠ some p) : TpOk K ta S (upd H p o) τ := fun a e => by
  have na : a ≠ p := fun z => nt (by rw [← z]; exact e)
  exact (t a e).mono (Same.refl _) (t a e).1 (upd_ne na)
/-- an owned list is made stable -/
theorem Rel.frzOw {i : Nat} {p : Addr} {ds : List D} {vs : List V} (R : Rel K ta ρ S σ H) (hi : ρ[i]? = some (.ow ds)) (hp : σ[i]? = some (some (.ref p))) (h : H p = some (.lst vs)) (n : S p = none) (ha : RpAll K S vs ds) :
    Rel K ta (ρ.set i (.im (.list ds))) (upd S p (.lst vs)) σ H := by
  have hl : i < ρ.length := (List.getElem?_eq_some_iff.mp hi).1
  have s1 : Same S (upd S p (.lst vs)) := same_upd n
  have pre : ∀ (j : Nat) (dj : List D), (ρ.set i (.im (.list ds)))[j]? = some (.ow dj) → j ≠ i ∧ ρ[j]? = some (.ow dj) := fun j dj e => by
    by_cases hj : j = i
    · subst hj; rw [List.getElem?_set_self hl] at e; cases e
    · rw [List.getElem?_set_ne (Ne.symm hj)] at e; exact ⟨hj, e⟩
  refine ⟨by simp [R.len], fun b o e => ?_, fun j s e => ?_, fun j l dj dl q e1 e2 e3 e4 => R.dist j l dj dl q (pre j dj e1).2 (pre l dl e2).2 e3 e4⟩
  · by_cases hb : b = p
    · subst hb; rw [upd_same] at e; cases e; exact h
    · rw [upd_ne hb] at e; exact R.sub b o e
  · by_cases hj : j = i
    · subst hj
      rw [List.getElem?_set_self hl] at e
      cases e
      exact ⟨.ref p, by rw [hp]; rfl, p, vs, rfl, upd_same, RpAll.mono s1 ds ha⟩
    · rw [List.getElem?_set_ne (Ne.symm hj)] at e
      have q := R.slot j s e
      cases s with
      | un => trivial
      | im d => obtain ⟨v, e1, e2⟩ := q; exact ⟨v, e1, Rp.mono s1 d e2⟩
      | tp => exact q
      | ow dj =>
        obtain ⟨q, ws, e1, e2, e3, e4, e5⟩ := q
        have nq : q ≠ p := fun z => by
          subst z
          exact hj (R.dist j i dj ds q e hi (getD_some e1) hp)
        exact ⟨q, ws, e1, e2, by rw [upd_ne nq]; exact e3, RpAll.mono s1 dj e4, e5⟩
end
section
variable {X : Cx} {ta : Ta} {Φ : Nat → List D → Option R} {Ψ : Nat → List D → Tp → Option (R × Tp)} {N : Nat} {e a b c : Expr} {ca cb cc : E} {x : Str} {p pos : Pos} {es : List Expr} {cs : List E} {st : Stmt} {sts : List Stmt} {s : S} {ss : List S}
theorem s_nil : PSs X [] (tSts X.K ta Φ Ψ N []) := PSs.weak pss_nil fun D σ H ⟨S, ρ, τ, o, hR, hT, he, hO⟩ => by
  simp only [evSs] at he
  cases he
  exact hO σ H S (Same.refl _) hR hT
theorem s_cons (h1 : PS X st (tSt X.K ta Φ Ψ N s)) (h2 : PSs X sts (tSts X.K ta Φ Ψ N ss)) : PSs X (st :: sts) (tSts X.K ta Φ Ψ N (s :: ss)) := PSs.weak (pss_cons h1 h2) fun D σ H ⟨S, ρ, τ, o, hR, hT, he, hO⟩ => by
  simp only [evSs] at he
  obtain ⟨o1, h1, he⟩ := bind_some he
  refine ⟨S, ρ, τ, o1, hR, hT, h1, ?_⟩
  cases o1 with
  | nx ρ1 τ1 => exact fun σ' H' S' s' R' t' => ⟨S', ρ1, τ1, o, R', t', he, hO.mono s'⟩
  | bk ρ1 τ1 => cases he; exact hO
  | ct ρ1 τ1 => cases he; exact hO
  | rt r τ1 => cases he; exact hO
/-- target = value, by data -/
theorem set_data {tg : Tg} {D : Ends} {σ : L2.St} {H : Hp} (h : tSt X.K ta Φ Ψ N (.set tg ca) D σ H) : tAsg (tE X.K ta Φ Ψ ca) (gT X.K tg) D σ H := by
  obtain ⟨S, ρ, τ, o, hR, hT, he, hO⟩ := h
  simp only [evS] at he
  obtain ⟨x, hx, he⟩ := bind_some he
  obtain ⟨ρ1, hp, he⟩ := map_some he
  cases he
  refine ⟨S, ρ, τ, x.1, x.2, hR, hT, hx, fun v S1 H1 st rv => ?_⟩
  have R1 := hR.step st
  cases tg with
  | nm i =>
    obtain ⟨⟨k, d⟩, τ'⟩ := x
    cases k with
    | B => cases d <;> simp [putTg, putR] at hp
    | S =>
      simp only [putTg, putR, Option.some.injEq] at hp
      subst hp
      exact hO _ H1 S1 st.same (R1.put rv) st.tape
    | F =>
      obtain ⟨q, ds, vs, e1, e2, e3, e4, e5, e6⟩ := rv
      have e1' : d = .list ds := e1
      subst e1' e2
      simp only [putTg, putR, Option.some.injEq] at hp
      subst hp
      exact hO _ H1 S1 st.same (Rel.putOw hR R1 e5 (st.ntaF hT e5) e3 e4 e6) st.tape
  | tu is =>
    obtain ⟨⟨k, d⟩, τ'⟩ := x
    have hd : ∃ ds, d = .tuple ds := by cases d <;> simp only [putTg] at hp <;> first | cases hp | exact ⟨_, rfl⟩
    obtain ⟨ds, rfl⟩ := hd
    simp only [putTg] at hp
    have rp : Rp X.K S1 v (.tuple ds) := by
      cases k with
      | S => exact rv
      | B => obtain ⟨q, _, _, z, _⟩ := rv; cases z
      | F => obtain ⟨q, _, _, z, _⟩ := rv; cases z
    exact tg_ok (tg := .tu is) R1 rp hp fun σ1 R2 _ _ => hO σ1 H1 S1 st.same R2 st.tape
theorem s_set {i : Nat} {pos' : Pos} (hN : X.N.Nodup) (hi : X.N[i]? = some x) (hx : Loc X.env.scope x) (he : PE X e (tE X.K ta Φ Ψ ca)) (hs : swapsWith e (some (.Name x pos')) pos.line X.env = pure false) (hf : X.fn x = true ∨ X.env.scope.names.lookup x = some .local) :
    PS X (.Assign [.Name x pos'] e pos) (tSt X.K ta Φ Ψ N (.set (.nm i) ca)) := PS.weak (ps_set hN hi hx he hs hf) fun D σ H h => set_data h
theorem s_asg {tg : Expr} {t : Tg} (he : PE X e (tE X.K ta Φ Ψ ca)) (hg : PG X tg (gT X.K t)) (hs : swapsWithSole [tg] e pos.line X.env = pure false) (hw : swappedStores [tg] e X.env = pure none) (h1 : (assignEach [tg] X.env).map (·.2) = [assign tg X.env]) :
    PS X (.Assign [tg] e pos) (tSt X.K ta Φ Ψ N (.set t ca)) := PS.weak (ps_asg he hg hs hw h1) fun D σ H h => set_data h
theorem par_ok {K : PySem.W.Frag} {S H : Hp} {v : V} {r : R} {d : D} (u : UV K ta S H v r) (h : stb r = some d) : Rp K S v d := u.st h
theorem s_par2 {i j : Nat} {y : Str} {px py pt : Pos} {kt k2 pt2} (hc : X.calm = true) (hN : X.N.Nodup) (hi : X.N[i]? = some x) (hj : X.N[j]? = some y) (hij : i ≠ j) (hx : X.env.scope.names.lookup x = some .local) (hy : X.env.scope.names.lookup y = some .local) (ha : PA X [a, b] (tAs X.K ta Φ Ψ [ca, cb]))
    (hw : swappedStores [.Tuple [.Name x px, .Name y py] kt pt] (.Tuple [a, b] k2 pt2) X.env = pure (some [x, y])) (hs : swapsWithSole [.Tuple [.Name x px, .Name y py] kt pt] (.Tuple [a, b] k2 pt2) pos.line X.env = pure false) :
    PS X (.Assign [.Tuple [.Name x px, .Name y py] kt pt] (.Tuple [a, b] k2 pt2) pos) (tSt X.K ta Φ Ψ N (.par2 i j ca cb)) := PS.weak (ps_par hc hN hi hj hij hx hy ha hw hs) fun D σ H ⟨S, ρ, τ, o, hR, hT, he, hO⟩ => by
  simp only [evS] at he
  obtain ⟨x1, h1, he⟩ := bind_some he
  obtain ⟨x2, h2, he⟩ := bind_some he
  obtain ⟨v1, g1, he⟩ := bind_some he
  obtain ⟨v2, g2, he⟩ := map_some he
  cases he
  refine ⟨S, ρ, τ, [x1.1, x2.1], x2.2, hR, hT, by simp [evs, h1, h2], fun vs S1 H1 st u => ?_⟩
  cases vs with
  | nil => exact u.elim
  | cons w1 vs => cases vs with
    | nil => exact u.2.elim
    | cons w2 vs => cases vs with
      | cons _ _ => exact u.2.2.elim
      | nil => exact ⟨w1, w2, rfl, hO _ H1 S1 st.same (((hR.step st).put (u.1.st g1)).put (u.2.1.st g2)) st.tape⟩
theorem s_par3 {i j l : Nat} {y z : Str} {px py pz pt : Pos} {kt k2 pt2} (hc : X.calm = true) (hN : X.N.Nodup) (hi : X.N[i]? = some x) (hj : X.N[j]? = some y) (hl : X.N[l]? = some z) (hij : i ≠ j) (hil : i ≠ l) (hjl : j ≠ l) (hx : X.env.scope.names.lookup x = some .local) (hy : X.env.scope.names.lookup y = some .local) (hz : X.env.scope.names.lookup z = some .local)
    (ha : PA X [a, b, c] (tAs X.K ta Φ Ψ [ca, cb, cc])) (h : PS X (.Assign [.Tuple [.Name x px, .Name y py, .Name z pz] kt pt] (.Tuple [a, b, c] k2 pt2) pos) (tPar3 i j l (tAs X.K ta Φ Ψ [ca, cb, cc]))) :
    PS X (.Assign [.Tuple [.Name x px, .Name y py, .Name z pz] kt pt] (.Tuple [a, b, c] k2 pt2) pos) (tSt X.K ta Φ Ψ N (.par3 i j l ca cb cc)) := PS.weak h fun D σ H ⟨S, ρ, τ, o, hR, hT, he, hO⟩ => by
  simp only [evS] at he
  obtain ⟨x1, h1, he⟩ := bind_some he
  obtain ⟨x2, h2, he⟩ := bind_some he
  obtain ⟨x3, h3, he⟩ := bind_some he
  obtain ⟨v1, g1, he⟩ := bind_some he
  obtain ⟨v2, g2, he⟩ := bind_some he
  obtain ⟨v3, g3, he⟩ := map_some he
  cases he
  refine ⟨S, ρ, τ, [x1.1, x2.1, x3.1], x3.2, hR, hT, by simp [evs, h1, h2, h3], fun vs S1 H1 st u => ?_⟩
  cases vs with
  | nil => exact u.elim
  | cons w1 vs => cases vs with
    | nil => exact u.2.elim
    | cons w2 vs => cases vs with
      | nil => exact u.2.2.elim
      | cons w3 vs => cases vs with
        | cons _ _ => exact u.2.2.2.elim
        | nil => exact ⟨w1, w2, w3, rfl, hO _ H1 S1 st.same ((((hR.step st).put (u.1.st g1)).put (u.2.1.st g2)).put (u.2.2.1.st g3)) st.tape⟩
/-- name op= value -/
theorem imulW : OpR X (inplaceOp .Mult) (rI CMulW fun i j => .int (i * j)) := opI fun _ _ _ _ _ _ _ hc q => imul_int q hc.ok
def rAug (op : Bo) : TIp := fun x y H Q => ∃ i j k, x = .int i ∧ y = .int j ∧ augD op (.int i) (.int j) = some (.int k) ∧ Q (.int k) H
theorem aug_run (op : Bo) : PIp X (boO op) (rAug op) := by
  intro pins s σ H x y v u Q I rx ry ⟨i, j, k, ex, ey, e, q⟩
  subst ex ey
  cases op with
  | add => simp only [augD] at e; cases e; exact iop_add pins s σ H _ _ v u Q I rx ry ⟨i, j, rfl, rfl, q⟩
  | sub => simp only [augD] at e; cases e; exact iop_sub pins s σ H _ _ v u Q I rx ry ⟨i, j, rfl, rfl, q⟩
  | mul =>
    simp only [augD] at e
    by_cases hc : mulFits i j = true
    · rw [if_pos hc] at e
      cases e
      exact imulW pins s σ H _ _ v u Q I rx ry ⟨i, j, rfl, rfl, (show CMulW i j by unfold CMulW; unfold mulFits at hc; exact of_decide_eq_true hc), q⟩
    · rw [if_neg hc] at e; cases e
  | fdiv =>
    simp only [augD, divFits, Bool.and_eq_true, decide_eq_true_eq] at e
    split at e
    · rename_i hc
      cases e
      refine iop_fdivW pins s σ H _ _ v u Q I rx ry ⟨i, j, rfl, rfl, ⟨hc.2, hc.1.2⟩, ?_⟩
      have h0 : 0 ≤ j := by omega
      rw [Int.fdiv_eq_ediv_of_nonneg i h0] at q
      exact q
    · cases e
  | mod =>
    simp only [augD, decide_eq_true_eq] at e
    split at e
    · rename_i hc
      cases e
      refine iop_mod pins s σ H _ _ v u Q I rx ry ⟨i, j, rfl, rfl, hc, ?_⟩
      have h0 : 0 ≤ j := by omega
      rw [Int.fmod_eq_emod_of_nonneg i h0] at q
      exact q
    · cases e
  | pow => cases e
theorem s_aug {i : Nat} {op : Bo} {pos' : Pos} (hN : X.N.Nodup) (hi : X.N[i]? = some x) (hx : Loc X.env.scope x) (he : PE X e (tE X.K ta Φ Ψ ca)) (hf : X.fn x = true ∨ X.env.scope.names.lookup x = some .local) :
    PS X (.AugAssign (.Name x pos') (boO op) e pos) (tSt X.K ta Φ Ψ N (.aug i op ca)) := PS.weak (ps_aug hN hi hx he.use (aug_run op) hf) fun D σ H ⟨S, ρ, τ, o, hR, hT, hv, hO⟩ => by
  simp only [evS] at hv
  split at hv
  · rename_i d hq
    obtain ⟨y, hy, hv⟩ := bind_some hv
    obtain ⟨r, hr, hv⟩ := map_some hv
    cases hv
    obtain ⟨v, e1, e2⟩ := hR.slot i _ hq
    refine ⟨v, getD_some e1, one_ok hR hT hy fun vx S1 H1 st u => ?_⟩
    have isI : ∃ k l m, d = .int k ∧ y.1.d = .int l ∧ r = .int m := by
      cases d <;> cases q : y.1.d <;> rw [q] at hr <;> cases op <;> simp [augD] at hr <;> first | exact ⟨_, _, _, rfl, rfl, hr.symm⟩ | exact ⟨_, _, _, rfl, rfl, hr.2.symm⟩
    obtain ⟨k, l, m, rfl, q2, rfl⟩ := isI
    rw [q2] at hr
    refine ⟨k, l, m, e2, u.int q2, hr, hO _ H1 S1 st.same ((hR.step st).put (show Rp X.K S1 (.int m) (.int m) from rfl)) st.tape⟩
  · cases hv
/-- methods of an owned list -/
theorem ow_at {S H : Hp} {ρ : Rho} {σ : L2.St} {i : Nat} {ds : List D} (hR : Rel X.K ta ρ S σ H) (hi : ρ[i]? = some (.ow ds)) : ∃ p vs, σ[i]? = some (some (.ref p)) ∧ H p = some (.lst vs) ∧ S p = none ∧ RpAll X.K S vs ds ∧ ta.a ≠ some p := by
  obtain ⟨p, vs, e1, e2⟩ := hR.slot i _ hi
  exact ⟨p, vs, getD_some e1, e2⟩
theorem s_app {i : Nat} (h : PS X st (tDrop (tBM X.K "list" rAppend (tVar i) (tCons (tU X.K ta Φ Ψ ca) tNil)))) : PS X st (tSt X.K ta Φ Ψ N (.app i ca)) := PS.weak h fun D σ H ⟨S, ρ, τ, o, hR, hT, hv, hO⟩ => by
  simp only [evS] at hv
  split at hv
  · rename_i ds hq
    obtain ⟨y, hy, hv⟩ := bind_some hv
    obtain ⟨d, hd, hv⟩ := bind_some hv
    split at hv
    · rename_i hc
      cases hv
      obtain ⟨p, vs, e1, e2, e3, e4, e5⟩ := ow_at hR hq
      refine ⟨.ref p, e1, .inl ⟨rfl, vs, SqL.of e2⟩, one_ok hR hT hy fun vx S1 H1 st u => ?_⟩
      have R1 := hR.step st
      have f2 : H1 p = some (.lst vs) := st.gro _ _ e5 e2
      have f3 : S1 p = none := st.nn _ _ e5 e2 e3
      refine ⟨p, vs, vx, rfl, rfl, f2, lt_of (by rw [e4.length]; exact of_decide_eq_true hc), ?_⟩
      exact hO σ _ S1 st.same (R1.mut hq e1 f3 e5 ((RpAll.mono st.same ds e4).append ⟨vx, [], rfl, u.st hd, rfl⟩) (vs := vs)) (st.tape.mut e5)
    · cases hv
  · cases hv
theorem s_ext {i : Nat} (h : PS X st (tDrop (tBM X.K "list" rExtend (tVar i) (tCons (tU X.K ta Φ Ψ ca) tNil)))) : PS X st (tSt X.K ta Φ Ψ N (.ext i ca)) := PS.weak h fun D σ H ⟨S, ρ, τ, o, hR, hT, hv, hO⟩ => by
  simp only [evS] at hv
  split at hv
  · rename_i ds hq
    obtain ⟨y, hy, hv⟩ := bind_some hv
    split at hv
    · rename_i es hd
      split at hv
      · rename_i hc
        cases hv
        obtain ⟨p, vs, e1, e2, e3, e4, e5⟩ := ow_at hR hq
        refine ⟨.ref p, e1, .inl ⟨rfl, vs, SqL.of e2⟩, one_ok hR hT hy fun vx S1 H1 st u => ?_⟩
        have R1 := hR.step st
        have f2 : H1 p = some (.lst vs) := st.gro _ _ e5 e2
        have f3 : S1 p = none := st.nn _ _ e5 e2 e3
        obtain ⟨q, ws, rfl, g1, g2⟩ := u.lst st.sub hd
        have hc' := of_decide_eq_true hc
        rw [List.length_append, ← e4.length, ← g2.length] at hc'
        refine ⟨p, q, vs, ws, rfl, rfl, f2, g1, len_of hc', ?_⟩
        exact hO σ _ S1 st.same (R1.mut hq e1 f3 e5 ((RpAll.mono st.same ds e4).append g2) (vs := vs)) (st.tape.mut e5)
      · cases hv
    · cases hv
  · cases hv
theorem RpAll.dropLast {K : PySem.W.Frag} {H : Hp} {ds : List D} {vs : List V} (h : RpAll K H vs ds) : RpAll K H vs.dropLast ds.dropLast := by
  rw [List.dropLast_eq_take, List.dropLast_eq_take, h.length]
  exact RpAll.take _ h
theorem s_pop {i : Nat} (h : PS X st (tDrop (tBM0 X.K "list" rPop (tVar i)))) : PS X st (tSt X.K ta Φ Ψ N (.pop i)) := PS.weak h fun D σ H ⟨S, ρ, τ, o, hR, hT, hv, hO⟩ => by
  simp only [evS] at hv
  split at hv
  · rename_i ds hq
    split at hv
    · cases hv
    · rename_i hne
      cases hv
      obtain ⟨p, vs, e1, e2, e3, e4, e5⟩ := ow_at hR hq
      have hl : 0 < vs.length := by
        rw [e4.length]
        cases ds with
        | nil => simp at hne
        | cons _ _ => simp
      refine ⟨.ref p, e1, .inl ⟨rfl, vs, SqL.of e2⟩, p, vs, vs[vs.length - 1]'(by omega), rfl, rfl, e2, List.getElem?_eq_getElem _, ?_⟩
      exact hO σ _ S (Same.refl _) (hR.mut hq e1 e3 e5 (RpAll.dropLast e4) (vs := vs)) (hT.mut e5)
  · cases hv
theorem s_sti {i : Nat} (h : PS X st (tAsg (tU X.K ta Φ Ψ ca) (gSub (tVar i) (tU X.K ta Φ Ψ cb) rSetL))) : PS X st (tSt X.K ta Φ Ψ N (.sti i cb ca)) := PS.weak h fun D σ H ⟨S, ρ, τ, o, hR, hT, hv, hO⟩ => by
  simp only [evS] at hv
  obtain ⟨y, hy, hv⟩ := bind_some hv
  obtain ⟨d, hd, hv⟩ := bind_some hv
  split at hv
  · rename_i ds hq
    obtain ⟨z, hz, hv⟩ := bind_some hv
    obtain ⟨k, hk, hv⟩ := bind_some hv
    obtain ⟨j, hj, hv⟩ := map_some hv
    cases hv
    refine one_ok hR hT hy fun vx S1 H1 st u => ?_
    have R1 := hR.step st
    obtain ⟨p, vs, e1, e2, e3, e4, e5⟩ := ow_at R1 hq
    refine ⟨.ref p, e1, one_ok R1 st.tape hz fun vy S2 H2 st2 u2 => ?_⟩
    have R2 := R1.step st2
    have f2 : H2 p = some (.lst vs) := st2.gro _ _ e5 e2
    have f3 : S2 p = none := st2.nn _ _ e5 e2 e3
    refine ⟨p, vs, k, j, rfl, u2.int (intOf_some hk), f2, by rw [e4.length]; exact hj, ?_⟩
    exact hO σ _ S2 (st.trans st2).same (R2.mut hq e1 f3 e5 (RpAll.set j (RpAll.mono st2.same ds e4) (Rp.mono st2.same d (u.st hd))) (vs := vs)) (st2.tape.mut e5)
  · cases hv
/-- return -/
theorem s_ret (he : PE X e (tE X.K ta Φ Ψ ca)) : PS X (.Return (some e) pos) (tSt X.K ta Φ Ψ N (.ret ca)) := PS.weak (ps_ret he) fun D σ H ⟨S, ρ, τ, o, hR, hT, hv, hO⟩ => by
  simp only [evS] at hv
  obtain ⟨y, hy, hv⟩ := bind_some hv
  refine ⟨S, ρ, τ, y.1, y.2, hR, hT, hy, fun v S1 H1 st rv => ?_⟩
  obtain ⟨⟨k, d⟩, τ'⟩ := y
  cases k with
  | B => cases hv
  | S => cases hv; exact hO v H1 S1 st.same st.sub st.tape rv
  | F =>
    cases hv
    obtain ⟨q, ds, vs, e1, e2, e3, e4, e5, e6⟩ := rv
    exact hO v H1 S1 st.same st.sub st.tape ⟨q, ds, vs, e1, e2, e3, e4, e6, st.ntaF hT e5⟩
theorem s_retv {i : Nat} (he : PE X e (tVar i)) : PS X (.Return (some e) pos) (tSt X.K ta Φ Ψ N (.retv i)) := PS.weak (ps_ret he) fun D σ H ⟨S, ρ, τ, o, hR, hT, hv, hO⟩ => by
  simp only [evS] at hv
  split at hv
  · rename_i d hq
    cases hv
    obtain ⟨v, e1, e2⟩ := hR.slot i _ hq
    exact ⟨v, getD_some e1, hO v H S (Same.refl _) hR.sub hT e2⟩
  · rename_i ds hq
    cases hv
    obtain ⟨p, vs, e1, e2, e3, e4, e5⟩ := ow_at hR hq
    exact ⟨.ref p, e1, hO _ H S (Same.refl _) hR.sub hT ⟨p, ds, vs, rfl, rfl, e2, e3, e4, e5⟩⟩
  · cases hv
theorem s_retn : PS X (.Return none pos) (tSt X.K ta Φ Ψ N .retn) := PS.weak ps_retN fun D σ H ⟨S, ρ, τ, o, hR, hT, hv, hO⟩ => by
  simp only [evS] at hv
  cases hv
  exact hO .non H S (Same.refl _) hR.sub hT (show Rp X.K S .non .none from rfl)
theorem s_ite {sa sb : List Stmt} {xa xb : List S} (hc : PT X c (tT X.K ta Φ Ψ cc)) (ha : PSs X sa (tSts X.K ta Φ Ψ N xa)) (hb : PSs X sb (tSts X.K ta Φ Ψ N xb)) : PS X (.If c sa sb pos) (tSt X.K ta Φ Ψ N (.ite cc xa xb)) := PS.weak (ps_if hc ha hb) fun D σ H ⟨S, ρ, τ, o, hR, hT, hv, hO⟩ => by
  simp only [evS] at hv
  obtain ⟨y, hy, hv⟩ := bind_some hv
  split at hv
  · rename_i q
    exact ⟨S, ρ, τ, y.1, y.2, true, hR, hT, hy, q, fun S1 H1 st => iteT ⟨S1, ρ, y.2, o, hR.step st, st.tape, hv, hO.mono st.same⟩⟩
  · rename_i q
    exact ⟨S, ρ, τ, y.1, y.2, false, hR, hT, hy, q, fun S1 H1 st => iteF ⟨S1, ρ, y.2, o, hR.step st, st.tape, hv, hO.mono st.same⟩⟩
  · cases hv
theorem s_whl {body : List Stmt} (hp : PassesOwn (model X.prog X.w) X.A X.env X.xe) (hc : PT X c (tT X.K ta Φ Ψ cc)) (hb : PSs X body (tSts X.K ta Φ Ψ N ss)) : PS X (.While c body [] pos) (tSt X.K ta Φ Ψ N (.whl cc ss)) := PS.weak (ps_while hp hc hb) fun D σ H ⟨S, ρ, τ, o, hR, hT, hv, hO⟩ => by
  simp only [evS] at hv
  generalize hf : (fun ρ τ => evSs Φ Ψ N ρ τ ss) = f at hv
  generalize hg : (fun ρ τ => ev Φ Ψ ρ τ cc) = g at hv
  refine ⟨fun m σ' H' => ∃ S' ρ' τ', Same S S' ∧ Rel X.K ta ρ' S' σ' H' ∧ TpOk X.K ta S' H' τ' ∧ whL g f m ρ' τ' = some o, ⟨N, S, ρ, τ, Same.refl _, hR, hT, hv⟩, ?_⟩
  rintro m σ' H' ⟨S', ρ', τ', s', R', t', w⟩
  cases m with
  | zero => cases w
  | succ m =>
    unfold whL at w
    obtain ⟨y, hy, w⟩ := bind_some w
    rw [← hg] at hy
    split at w
    · rename_i q
      obtain ⟨o1, h1, w⟩ := bind_some w
      rw [← hf] at h1
      refine ⟨S', ρ', τ', y.1, y.2, true, R', t', hy, q, fun S1 H1 st => iteT ⟨fun σ2 H2 => ∃ S2 ρ2 τ2, Same S S2 ∧ Rel X.K ta ρ2 S2 σ2 H2 ∧ TpOk X.K ta S2 H2 τ2 ∧ whL g f m ρ2 τ2 = some o, fun σ2 H2 h => ⟨m, Nat.lt_succ_self m, h⟩, ?_⟩⟩
      refine ⟨S1, ρ', y.2, o1, R'.step st, st.tape, h1, ?_⟩
      have sS := s'.trans st.same
      cases o1 with
      | nx ρ1 τ1 => exact fun σ2 H2 S2 s2 R2 t2 => ⟨S2, ρ1, τ1, sS.trans s2, R2, t2, w⟩
      | ct ρ1 τ1 => exact fun σ2 H2 S2 s2 R2 t2 => ⟨S2, ρ1, τ1, sS.trans s2, R2, t2, w⟩
      | bk ρ1 τ1 => cases w; exact fun σ2 H2 S2 s2 R2 t2 => hO σ2 H2 S2 (sS.trans s2) R2 t2
      | rt r τ1 => cases w; exact fun v H2 S2 s2 => hO v H2 S2 (sS.trans s2)
    · rename_i q
      cases w
      exact ⟨S', ρ', τ', y.1, y.2, false, R', t', hy, q, fun S1 H1 st => iteF (hO σ' H1 S1 (s'.trans st.same) (R'.step st) st.tape)⟩
    · cases w
/-- a for over what is stable -/
theorem for_core {tb : TS} {tg : Tg} {D : Ends} {f : Rho → Tp → Option Out} {J : It} {S1 H1 : Hp} {σ : L2.St} {ρ : Rho} {τ : Tp} {o : Out} {ds : List Ev.D} (hb : ∀ D σ H S ρ τ o, Rel X.K ta ρ S σ H → TpOk X.K ta S H τ → f ρ τ = some o → OutP X.K ta S D o → tb D σ H)
    (hR : Rel X.K ta ρ S1 σ H1) (hT : TpOk X.K ta S1 H1 τ) (hv : forL f tg ds ρ τ = some o) (hO : OutP X.K ta S1 D o) (wk : WalkOk X.K ta true J S1 H1 ds) :
    ∃ W : Nat → Nat → L2.St → Hp → Prop, (∃ m, W 0 m σ H1) ∧ ∀ i m σ H, W i m σ H →
      (J.stop i H ∧ D.nx σ H) ∨ (J.go i H ∧ ∃ N : L2.St → Hp → Prop, (∀ σ' H', N σ' H' → ∃ m', m' < m ∧ W (i + 1) m' σ' H') ∧ ∀ x H', J.yld i H x H' → gT X.K tg x σ H' fun σ2 H2 => tb { D with nx := N, ct := N, bk := D.nx } σ2 H2) := by
  let Pv : Nat → L2.St → Hp → Prop := fun i σ' H' => ∃ S' ρ' τ', Same S1 S' ∧ Rel X.K ta ρ' S' σ' H' ∧ TpOk X.K ta S' H' τ' ∧ forL f tg (ds.drop i) ρ' τ' = some o
  have start : Pv 0 σ H1 := ⟨S1, ρ, τ, Same.refl _, hR, hT, hv⟩
  have done : ∀ σ' H', Pv ds.length σ' H' → D.nx σ' H' := fun σ' H' ⟨S', ρ', τ', s, R', t', w⟩ => by
    rw [List.drop_length] at w
    cases w
    exact hO σ' H' S' s R' t'
  have turn : ∀ (i : Nat) (d : Ev.D) (v : V) (σ' : L2.St) (H' : Hp), ds[i]? = some d → Pv i σ' H' → Rp X.K S1 v d → gT X.K tg v σ' H' fun σ2 H2 => tb { D with nx := Pv (i + 1), ct := Pv (i + 1), bk := D.nx } σ2 H2 := by
    intro i d v σ' H' hi ⟨S', ρ', τ', s, R', t', w⟩ hd
    have hlt : i < ds.length := (List.getElem?_eq_some_iff.mp hi).1
    have hdrop : ds.drop i = d :: ds.drop (i + 1) := by
      rw [List.drop_eq_getElem_cons hlt]
      congr 1
      exact (List.getElem?_eq_some_iff.mp hi).2
    rw [hdrop] at w
    unfold forL at w
    obtain ⟨ρ1, h1, w⟩ := bind_some w
    obtain ⟨o1, h2, w⟩ := bind_some w
    refine tg_ok R' (Rp.mono s d hd) h1 fun σ1 R1 _ _ => ?_
    refine hb _ σ1 H' S' ρ1 τ' o1 R1 t' h2 ?_
    cases o1 with
    | nx ρ2 τ2 => exact fun σ2 H2 S2 s2 R2 t2 => ⟨S2, ρ2, τ2, s.trans s2, R2, t2, w⟩
    | ct ρ2 τ2 => exact fun σ2 H2 S2 s2 R2 t2 => ⟨S2, ρ2, τ2, s.trans s2, R2, t2, w⟩
    | bk ρ2 τ2 => cases w; exact fun σ2 H2 S2 s2 R2 t2 => hO σ2 H2 S2 (s.trans s2) R2 t2
    | rt r τ2 => cases w; exact fun v2 H2 S2 s2 => hO v2 H2 S2 (s.trans s2)
  rcases wk with ⟨lo, n, rfl, rfl⟩ | ⟨a, vs, rfl, ha, nta, hall, hst⟩ | ⟨a, vs, rfl, ha, hall⟩
  · have hn := rngD_len n lo
    exact for_range Pv start (fun i σ' H' hi hP => turn i _ _ σ' H' (rngD_get n lo i hi) hP rfl) (by rw [hn] at done; exact done)
  · have hn := hall.length
    have hs := hst rfl
    refine for_list (xs := vs) Pv start (fun i σ' H' _ ⟨S', ρ', τ', s, R', _⟩ => SqL.of (R'.sub _ _ (s _ _ hs))) (fun i x σ' H' hi hP => ?_) (by rw [hn]; exact done)
    have hlt : i < ds.length := by rw [← hn]; exact (List.getElem?_eq_some_iff.mp hi).1
    obtain ⟨v, e1, e2⟩ := hall.get (List.getElem?_eq_getElem hlt)
    rw [hi] at e1
    cases e1
    exact turn i _ _ σ' H' (List.getElem?_eq_getElem hlt) hP e2
  · have hn := hall.length
    refine for_tup (xs := vs) Pv start (fun i σ' H' _ ⟨S', ρ', τ', s, R', _⟩ => Same.seqT (s.trans R'.sub) ha) (fun i x σ' H' hi hP => ?_) (by rw [hn]; exact done)
    have hlt : i < ds.length := by rw [← hn]; exact (List.getElem?_eq_some_iff.mp hi).1
    obtain ⟨v, e1, e2⟩ := hall.get (List.getElem?_eq_getElem hlt)
    rw [hi] at e1
    cases e1
    exact turn i _ _ σ' H' (List.getElem?_eq_getElem hlt) hP e2
theorem s_for {tg iter : Expr} {body : List Stmt} {t : Tg} {k : Nat} {its : List E} (hp : PassesOwn (model X.prog X.w) X.A X.env X.xe) (hc : X.calm = true) (hi : PI X tg iter (tIt X.K ta Φ Ψ k its)) (hg : PG X tg (gT X.K t)) (hb : PSs X body (tSts X.K ta Φ Ψ N ss))
    (hs : ∀ x, foldedSetIterable iter X.env x = pure x) : PS X (.For tg iter body [] pos) (tSt X.K ta Φ Ψ N (.for_ t k its ss)) := PS.weak (ps_for hp hc hi hg hb hs) fun D σ H ⟨S, ρ, τ, o, hR, hT, hv, hO⟩ => by
  simp only [evS] at hv
  obtain ⟨y, hy, hv⟩ := bind_some hv
  obtain ⟨ds, hd, hv⟩ := bind_some hv
  split at hv
  · cases hv
  · rename_i hnb
    refine ⟨S, ρ, τ, y.1, y.2, ds, hR, hT, hy, hd, fun J S1 H1 st wk => ?_⟩
    have hnb' : (!y.1.any fun r => r.k == .B) = true := by simpa using hnb
    rw [hnb'] at wk
    exact for_core (f := fun ρ τ => evSs Φ Ψ N ρ τ ss) (fun D σ H S ρ τ o h1 h2 h3 h4 => ⟨S, ρ, τ, o, h1, h2, h3, h4⟩) (hR.step st) st.tape hv (hO.mono st.same) wk
theorem s_forv {tg : Expr} {body : List Stmt} {t : Tg} {i : Nat} (hp : PassesOwn (model X.prog X.w) X.A X.env X.xe) (hc : X.calm = true) (hi : PE X e (tVar i)) (hg : PG X tg (gT X.K t)) (hb : PSs X body (tSts X.K ta Φ Ψ N ss))
    (hs : ∀ x, foldedSetIterable e X.env x = pure x) : PS X (.For tg e body [] pos) (tSt X.K ta Φ Ψ N (.forv t i ss)) := PS.weak (ps_for hp hc (pi_seq hi) hg hb hs) fun D σ H ⟨S, ρ, τ, o, hR, hT, hv, hO⟩ => by
  simp only [evS] at hv
  split at hv
  · rename_i ds hq
    obtain ⟨p, vs, e1, e2, e3, e4, e5⟩ := ow_at hR hq
    have s1 : Same S (upd S p (.lst vs)) := same_upd e3
    have hT1 : TpOk X.K ta (upd S p (.lst vs)) H τ := fun a ea => by
      have na : a ≠ p := fun z => e5 (by rw [← z]; exact ea)
      exact (hT a ea).mono s1 (by rw [upd_ne na]; exact (hT a ea).1) rfl
    refine ⟨.ref p, e1, p, rfl, .inl ⟨⟨vs, SqL.of e2⟩, ?_⟩⟩
    exact for_core (f := fun ρ τ => evSs Φ Ψ N ρ τ ss) (fun D σ H S ρ τ o h1 h2 h3 h4 => ⟨S, ρ, τ, o, h1, h2, h3, h4⟩) (hR.frzOw hq e1 e2 e3 e4) hT1 hv (hO.mono s1) (.inr (.inl ⟨p, vs, rfl, e2, e5, RpAll.mono s1 ds e4, fun _ => upd_same⟩))
  · rename_i d hq
    obtain ⟨ds, hd, hv⟩ := bind_some hv
    obtain ⟨v, e1, e2⟩ := hR.slot i _ hq
    refine ⟨v, getD_some e1, ?_⟩
    cases d <;> simp only [itD] at hd <;> first | cases hd | skip
    · obtain ⟨p, vs, rfl, f2, f3⟩ := e2
      refine ⟨p, rfl, .inl ⟨⟨vs, SqL.of (hR.sub _ _ f2)⟩, ?_⟩⟩
      exact for_core (f := fun ρ τ => evSs Φ Ψ N ρ τ ss) (fun D σ H S ρ τ o h1 h2 h3 h4 => ⟨S, ρ, τ, o, h1, h2, h3, h4⟩) hR hT hv hO (.inr (.inl ⟨p, vs, rfl, hR.sub _ _ f2, fun z => (by have := (hT p z).1; rw [f2] at this; cases this), f3, fun _ => f2⟩))
    · obtain ⟨p, vs, rfl, f2, f3⟩ := e2
      refine ⟨p, rfl, .inr ⟨⟨vs, Same.seqT hR.sub f2⟩, ?_⟩⟩
      exact for_core (f := fun ρ τ => evSs Φ Ψ N ρ τ ss) (fun D σ H S ρ τ o h1 h2 h3 h4 => ⟨S, ρ, τ, o, h1, h2, h3, h4⟩) hR hT hv hO (.inr (.inr ⟨p, vs, rfl, f2, f3⟩))
  · cases hv
theorem s_brk : PS X (.Break pos) (tSt X.K ta Φ Ψ N .brk) := PS.weak ps_break fun D σ H ⟨S, ρ, τ, o, hR, hT, hv, hO⟩ => by
  simp only [evS] at hv
  cases hv
  exact hO σ H S (Same.refl _) hR hT
theorem s_cnt : PS X (.Continue pos) (tSt X.K ta Φ Ψ N .cnt) := PS.weak ps_continue fun D σ H ⟨S, ρ, τ, o, hR, hT, hv, hO⟩ => by
  simp only [evS] at hv
  cases hv
  exact hO σ H S (Same.refl _) hR hT
theorem s_pas : PS X (.Pass pos) (tSt X.K ta Φ Ψ N .pas) := PS.weak ps_pass fun D σ H ⟨S, ρ, τ, o, hR, hT, hv, hO⟩ => by
  simp only [evS] at hv
  cases hv
  exact hO σ H S (Same.refl _) hR hT
theorem s_exp (he : PE X e (tE X.K ta Φ Ψ ca)) (hs : swapsWith e none pos.line X.env = pure false) : PS X (.Expr e pos) (tSt X.K ta Φ Ψ N (.exp ca)) := PS.weak (ps_expr he hs) fun D σ H ⟨S, ρ, τ, o, hR, hT, hv, hO⟩ => by
  simp only [evS] at hv
  obtain ⟨y, hy, hv⟩ := map_some hv
  cases hv
  exact ⟨S, ρ, τ, y.1, y.2, hR, hT, hy, fun v S1 H1 st rv => hO σ H1 S1 st.same (hR.step st) st.tape⟩
theorem s_nev : PS X st (tSt X.K ta Φ Ψ N .nev) := PS.weak ps_never fun D σ H ⟨S, ρ, τ, o, hR, hT, hv, hO⟩ => by
  simp only [evS] at hv
  cases hv
end
end Ev

/-! ## Ev9 -/
namespace Ev
open PySem PySem.Spec PyProof.Rows L2

/-! ### from the syntax tree to the code -/
structure Cc where
  N : List Str
  sc : Scope
  cs : List (Str × D)
  fs : List Str
  ft : List Str
  bl : List Str
def ixOf : List Str → Str → Option Nat
  | [], _ => none
  | y :: r, x => if y = x then some 0 else (ixOf r x).map (· + 1)
theorem ixOf_get : ∀ {N : List Str} {x : Str} {i : Nat}, ixOf N x = some i → N[i]? = some x
  | [], _, _, h => by cases h
  | y :: r, x, i, h => by
    unfold ixOf at h
    split at h
    · rename_i e
      cases h
      simp [e]
    · obtain ⟨j, h1, h2⟩ := map_some h
      subst h2
      simpa using ixOf_get h1
def visB (sc : Scope) (x : Str) : Bool := match sc.names.lookup x with
  | some .local => true
  | some .cell => true
  | some .free => true
  | _ => false
theorem visB_ok {sc : Scope} {x : Str} (h : visB sc x = true) : Vis sc x := by
  unfold visB at h
  split at h
  · rename_i q; exact .inl q
  · rename_i q; exact .inr (.inl q)
  · rename_i q; exact .inr (.inr q)
  · cases h
def locB (sc : Scope) (x : Str) : Bool := match sc.names.lookup x with
  | some .local => true
  | some .cell => true
  | _ => false
theorem locB_ok {sc : Scope} {x : Str} (h : locB sc x = true) : Loc sc x := by
  unfold locB at h
  split at h
  · rename_i q; exact .inl q
  · rename_i q; exact .inr q
  · cases h
def glB (sc : Scope) (x : Str) : Bool := match sc.names.lookup x with
  | some .globalImplicit => true
  | _ => false
theorem glB_ok {X : Cx} {x : Str} (h : glB X.env.scope x = true) : Gl X x := by
  unfold glB at h
  split at h
  · rename_i q; exact q
  · cases h
def sDebug : Str := "__debug__"
def sClassdict : Str := "__classdict__"
def sName : Str := "__name__"
def sBits : Str := "bit_length"
def sRange : Str := "range"
def sAppend : Str := "append"
def sExtend : Str := "extend"
def sPop : Str := "pop"
def okName (x : Str) : Bool := !(x == sDebug) && !(x == sClassdict) && !(x == sName)
theorem okName_ok {x : Str} (h : okName x = true) : (x == ("__debug__" : Str)) = false ∧ (x == ("__classdict__" : Str)) = false ∧ x ≠ "__name__" := by
  unfold okName at h
  simp only [Bool.and_eq_true, Bool.not_eq_true'] at h
  exact ⟨h.1.1, h.1.2, fun e => by have := h.2; rw [e] at this; exact absurd (beq_self_eq_true _) (by rw [show (sName == sName) = false from this]; decide)⟩
def cVar (c : Cc) (x : Str) : Option Nat := if visB c.sc x && okName x then ixOf c.N x else none
def cOp : Operator → Option Bo
  | .Add => some .add | .Sub => some .sub | .Mult => some .mul | .FloorDiv => some .fdiv | .Mod => some .mod | .Pow => some .pow | _ => none
theorem cOp_ok {op : Operator} {b : Bo} (h : cOp op = some b) : boO b = op := by cases op <;> cases h <;> rfl
def cCo : CmpOp → Option Co
  | .Eq => some .eq | .NotEq => some .ne | .Lt => some .lt | .LtE => some .le | .Gt => some .gt | .GtE => some .ge | .In => some .isin | .NotIn => some .notin | _ => none
theorem cCo_ok {op : CmpOp} {b : Co} (h : cCo op = some b) : coO b = op := by cases op <;> cases h <;> rfl
def noneB : Expr → Bool
  | .Constant .none _ _ => true
  | _ => false
def cEs (f : Expr → Option E) : List Expr → Option (List E)
  | [] => some []
  | e :: es => (f e).bind fun x => (cEs f es).map fun xs => x :: xs
def cCompare (f : Expr → Option E) (a : Expr) (ops : List CmpOp) (bs : List Expr) : Option E := match ops, bs with
  | [op], [b] => match op with
    | .Is => if noneB b then (f a).map .isN else if behindInMarks .Is b then none else (f a).bind fun x => (f b).map fun y => .isB x y
    | .IsNot => if noneB b then (f a).map .notN else if behindInMarks .IsNot b then none else (f a).bind fun x => (f b).map fun y => .notB x y
    | op => if behindInMarks op b then none else (cCo op).bind fun o => (f a).bind fun x => (f b).map fun y => .cmp o x y
  | [o1, o2], [b, c] => if lastMarks [o1, o2] [b, c] then none else (cCo o1).bind fun p => (cCo o2).bind fun q => (f a).bind fun x => (f b).bind fun y => (f c).map fun z => .chn p q x y z
  | _, _ => none
def conL : List E → Option E
  | [] => none
  | [a] => some a
  | a :: b :: r => (conL (b :: r)).map fun x => .con a x
def disL : List E → Option E
  | [] => none
  | [a] => some a
  | a :: b :: r => (disL (b :: r)).map fun x => .dis a x
def cBool (f : Expr → Option E) (op : BoolOp) (vs : List Expr) : Option E := (cEs f vs).bind fun cs => match op with
  | .And => conL cs
  | .Or => disL cs
def isRev : Option Expr → Bool
  | some (.UnaryOp .USub (.Constant (.int i) _ _) _) => decide (i = 1)
  | _ => false
def cSub (f : Expr → Option E) (a : Expr) (s : Expr) : Option E := match s with
  | .Slice lo hi st _ => match st with
    | none => match lo, hi with
      | none, none => (f a).map .slcA
      | some l, none => (f a).bind fun x => (f l).map fun y => .slcL x y
      | none, some h => (f a).bind fun x => (f h).map fun y => .slcH x y
      | some l, some h => (f a).bind fun x => (f l).bind fun y => (f h).map fun z => .slc x y z
    | st => match lo, hi with
      | none, none => if isRev st then (f a).map .rev else none
      | _, _ => none
  | b => (f a).bind fun x => (f b).map fun y => .idx x y
/-- the built-ins by name -/
def blNames : List (Str × Bl) := [("len", .len), ("abs", .abs), ("min", .min), ("max", .max), ("int", .int), ("tuple", .tuple), ("list", .list), ("sum", .sum), ("any", .any), ("all", .all)]
def cCall (c : Cc) (f : Expr → Option E) (fn : Expr) (args : List Expr) (kws : List Keyword) (pos : Pos) : Option E := match fn, args, kws with
  | .Name x _, e :: es, [] => if glB c.sc x && okName x then
      match ixOf c.fs x with
      | some k => (cEs f (e :: es)).map fun cs => .call k cs
      | none => match ixOf c.ft x with
        | some k => match e with
          | .Name d _ => (cVar c d).bind fun i => (cEs f es).map fun cs => .callT k i cs
          | _ => none
        | none => if c.bl.contains x then (blNames.lookup x).bind fun b => (cEs f (e :: es)).map fun cs => .blt b cs else none
      else none
  | .Attribute (.Name o p) at_ apos, [], [] => if at_ = sBits ∧ (apos.endLine == pos.line) = true then (f (.Name o p)).map fun x => .blt .bitlen [x] else none
  | _, _, _ => none
def cTgs (c : Cc) : List Expr → Option (List (Str × Nat))
  | [] => some []
  | .Name x _ :: r => if okName x then (ixOf c.N x).bind fun i => (cTgs c r).map fun xs => (x, i) :: xs else none
  | _ :: _ => none
def cTg (c : Cc) : Expr → Option (Tg × List (Str × Nat))
  | .Name x _ => if okName x then (ixOf c.N x).map fun i => (.nm i, [(x, i)]) else none
  | .Tuple es _ _ => (cTgs c es).map fun xs => (.tu (xs.map (·.2)), xs)
  | _ => none
def cIt (c : Cc) (f : Expr → Option E) (e : Expr) : Option (Nat × List E) := match e with
  | .Call (.Name x _) [a] [] _ => if x = sRange ∧ glB c.sc x = true ∧ c.bl.contains x = true then (f a).map fun y => (1, [y]) else (f e).map fun y => (0, [y])
  | .Call (.Name x _) [a, b] [] _ => if x = sRange ∧ glB c.sc x = true ∧ c.bl.contains x = true then (f a).bind fun y => (f b).map fun z => (2, [y, z]) else (f e).map fun y => (0, [y])
  | e => (f e).map fun y => (0, [y])
def cComp (c : Cc) (f g : Expr → Option E) (elt : Expr) (gs : List Comprehension) (scope : Scope) : Option E := match gs with
  | [⟨tg, iter, ifs, z⟩] => if z = 0 ∧ ifs.length ≤ 1 then (cTg c tg).bind fun t => if blkC c.N c.sc scope t.2 && t.2.all (fun p => locB scope p.1) then
      (cIt c f iter).bind fun it => (cEs g ifs).bind fun cs => (g elt).map fun x => .comp x t.1 it.1 it.2 cs else none else none
  | _ => none
def compE : Nat → Cc → Expr → Option E
  | 0, _, _ => none
  | n + 1, c, e => match e with
    | .Constant k _ _ => match k with
      | .int i => some (.cst (.int i))
      | .bool b => some (.cst (.bool b))
      | .none => some (.cst .none)
      | .str s => some (.cst (.str s))
      | _ => none
    | .Name x _ => match cVar c x with
      | some i => some (.var i)
      | none => if glB c.sc x && okName x then (c.cs.lookup x).map .cst else none
    | .BinOp a op b _ => (cOp op).bind fun o => (compE n c a).bind fun x => (compE n c b).map fun y => .bin o x y
    | .UnaryOp op a _ => match op with
      | .USub => (compE n c a).map .neg
      | .Not => (compE n c a).map .inv
      | _ => none
    | .Compare a ops bs _ => cCompare (compE n c) a ops bs
    | .BoolOp op vs _ => cBool (compE n c) op vs
    | .IfExp t a b _ => (compE n c t).bind fun x => (compE n c a).bind fun y => (compE n c b).map fun z => .ite x y z
    | .Tuple es _ _ => (cEs (compE n c) es).map .tup
    | .List es _ => (cEs (compE n c) es).map .lst
    | .Subscript a s _ => cSub (compE n c) a s
    | .Call fn args kws pos => cCall c (compE n c) fn args kws pos
    | .ListComp elt gs scope _ => cComp c (compE n c) (compE n { c with sc := relS scope c.sc }) elt gs scope
    | _ => none

/-! ### what the code needs of the context -/
structure CxOk (X : Cx) (c : Cc) (Φ : Nat → List D → Option R) (Ψ : Nat → List D → Tp → Option (R × Tp)) : Prop where
  hN : X.N = c.N
  nd : c.N.Nodup
  sc : X.env.scope = c.sc
  kind : c.sc.kind = .function
  calm : X.calm = true
  xe : X.xe = fun _ _ => False
  hu : X.A.units + 80 < cLine
  con : ∀ x d, c.cs.lookup x = some d → ∃ v u, X.mg x = some u ∧ RelV v u ∧ ∀ H, Rp X.K H v d
  bl : ∀ x, c.bl.contains x = true → X.mg x = none
  fns : ∀ n x, c.fs[n]? = some x → ∃ k f fd ps, FnOk X.prog X.w X.K X.mg X.base CX0 k f fd ps (spP X.K (Φ n)) ∧ Room k X.A ∧ X.mg x = some (.ref f) ∧ PySem.W.keepIn X.K (.ref f) = true ∧ Binds X.K fd ps []
  fts : ∀ n x, c.ft[n]? = some x → (∀ ds τ r τ', Ψ n ds τ = some (r, τ') → τ'.cells = τ.cells) ∧ ∃ k f fd ps, FnOk X.prog X.w X.K X.mg X.base CX0 k f fd ps (spT X.K (Ψ n)) ∧ Room k X.A ∧ X.mg x = some (.ref f) ∧ PySem.W.keepIn X.K (.ref f) = true ∧ Binds X.K fd ps []
def nsB : Expr → Bool
  | .Starred _ _ => false
  | .Set _ _ _ => false
  | _ => true
theorem star_ns {e : Expr} {es : List Expr} {env : Env} (h : nsB e = true) : starEach (e :: es) env = (false, eval e env) :: starEach es env := by
  cases e <;> first | rfl | cases h
theorem star_any {pos : Pos} {env : Env} : ∀ {es : List Expr}, (∀ e ∈ es, nsB e = true) → (backTo pos (starEach es env)).any (·.1) = false
  | [], _ => rfl
  | e :: es, h => by
    rw [star_ns (h e List.mem_cons_self)]
    show ((false, _) :: backTo pos (starEach es env)).any (·.1) = false
    rw [List.any_cons, star_any fun e he => h e (List.mem_cons_of_mem _ he)]
    rfl
/-- what a code says of its expression -/
def EOk (X : Cx) (ta : Ta) (Φ : Nat → List D → Option R) (Ψ : Nat → List D → Tp → Option (R × Tp)) (e : Expr) (c : E) : Prop := PE X e (tE X.K ta Φ Ψ c) ∧ PT X e (tT X.K ta Φ Ψ c) ∧ nsB e = true
section
variable {X : Cx} {ta : Ta} {Φ : Nat → List D → Option R} {Ψ : Nat → List D → Tp → Option (R × Tp)} {c : Cc} {f g : Expr → Option E} {e a b : Expr} {es : List Expr} {code : E} {cs : List E} {pos : Pos}
theorem EOk.of (h : PE X e (tE X.K ta Φ Ψ code)) (hn : nsB e = true) (he : ∀ whole, isTrue e X.env whole = (do let v ← whole; standAt e.pos; holding [v] (truthy v))) : EOk X ta Φ Ψ e code := ⟨h, t_val h he, hn⟩
theorem cEs_ok (hf : ∀ e code, f e = some code → EOk X ta Φ Ψ e code) : ∀ {es : List Expr} {cs : List E}, cEs f es = some cs → PA X es (tAs X.K ta Φ Ψ cs) ∧ (∀ e ∈ es, nsB e = true) ∧ Paired (EOk X ta Φ Ψ) es cs
  | [], cs, h => by
    cases h
    exact ⟨as_nil, (fun _ h => by cases h), .nil⟩
  | e :: es, cs, h => by
    unfold cEs at h
    obtain ⟨x, h1, h⟩ := bind_some h
    obtain ⟨xs, h2, h⟩ := map_some h
    subst h
    have p := hf e x h1
    obtain ⟨q1, q2, q3⟩ := cEs_ok hf h2
    refine ⟨as_cons p.1 q1 (star_ns p.2.2), fun e' he' => ?_, .cons p q3⟩
    rcases List.mem_cons.mp he' with rfl | h
    · exact p.2.2
    · exact q2 e' h
theorem noneB_ok {b : Expr} (h : noneB b = true) : ∃ j p, b = .Constant .none j p := by
  cases b <;> simp only [noneB] at h <;> try cases h
  rename_i v k p
  cases v <;> simp only [noneB] at h <;> try cases h
  exact ⟨_, _, rfl⟩
theorem cCompare_ok (hu : X.A.units + 80 < cLine) (hf : ∀ e code, f e = some code → EOk X ta Φ Ψ e code) {ops : List CmpOp} {bs : List Expr} (h : cCompare f a ops bs = some code) :
    PE X (.Compare a ops bs pos) (tE X.K ta Φ Ψ code) ∧ PT X (.Compare a ops bs pos) (tT X.K ta Φ Ψ code) := by
  unfold cCompare at h
  split at h
  · rename_i op b
    split at h
    · split at h
      · rename_i hb
        obtain ⟨j, p, rfl⟩ := noneB_ok hb
        obtain ⟨x, h1, h⟩ := map_some h
        subst h
        exact ⟨e_isN (hf _ _ h1).1, t_isN (hf _ _ h1).1⟩
      · split at h
        · cases h
        · rename_i hm
          obtain ⟨x, h1, h⟩ := bind_some h
          obtain ⟨y, h2, h⟩ := map_some h
          subst h
          have hm' : behindInMarks .Is b = false := by simpa using hm
          exact ⟨e_isB (hf _ _ h1).1 (hf _ _ h2).1 hm', t_isB (hf _ _ h1).1 (hf _ _ h2).1 hm'⟩
    · split at h
      · rename_i hb
        obtain ⟨j, p, rfl⟩ := noneB_ok hb
        obtain ⟨x, h1, h⟩ := map_some h
        subst h
        exact ⟨e_notN (hf _ _ h1).1, t_notN (hf _ _ h1).1⟩
      · split at h
        · cases h
        · rename_i hm
          obtain ⟨x, h1, h⟩ := bind_some h
          obtain ⟨y, h2, h⟩ := map_some h
          subst h
          have hm' : behindInMarks .IsNot b = false := by simpa using hm
          exact ⟨e_notB (hf _ _ h1).1 (hf _ _ h2).1 hm', t_notB (hf _ _ h1).1 (hf _ _ h2).1 hm'⟩
    · split at h
      · cases h
      · rename_i hm
        obtain ⟨o, ho, h⟩ := bind_some h
        obtain ⟨x, h1, h⟩ := bind_some h
        obtain ⟨y, h2, h⟩ := map_some h
        subst h
        have eo := cCo_ok ho
        subst eo
        have hm' : behindInMarks (coO o) b = false := by simpa using hm
        exact ⟨e_cmp hu (hf _ _ h1).1 (hf _ _ h2).1 hm', t_cmp hu (hf _ _ h1).1 (hf _ _ h2).1 hm'⟩
  · rename_i o1 o2 b c
    split at h
    · cases h
    · rename_i hm
      obtain ⟨p, hp, h⟩ := bind_some h
      obtain ⟨q, hq, h⟩ := bind_some h
      obtain ⟨x, h1, h⟩ := bind_some h
      obtain ⟨y, h2, h⟩ := bind_some h
      obtain ⟨z, h3, h⟩ := map_some h
      subst h
      have e1 := cCo_ok hp
      have e2 := cCo_ok hq
      subst e1 e2
      have hm' : lastMarks [coO p, coO q] [b, c] = false := by simpa using hm
      exact ⟨e_chn hu (hf _ _ h1).1 (hf _ _ h2).1 (hf _ _ h3).1 hm', t_chn hu (hf _ _ h1).1 (hf _ _ h2).1 (hf _ _ h3).1 hm'⟩
  · cases h
theorem conL_ok : ∀ {es : List Expr} {cs : List E} {code : E}, Paired (EOk X ta Φ Ψ) es cs → conL cs = some code → PE X (.BoolOp .And es pos) (tE X.K ta Φ Ψ code) ∧ PW X (.BoolOp .And es pos) (tT X.K ta Φ Ψ code)
  | [], [], _, _, h => by cases h
  | [e], [c], code, .cons p .nil, h => by cases h; exact ⟨pe_one p.1, pw_and1 p.2.1⟩
  | e :: e2 :: es, c :: c2 :: cs, code, .cons p r, h => by
    unfold conL at h
    obtain ⟨x, h1, h⟩ := map_some h
    subst h
    obtain ⟨q1, q2⟩ := conL_ok r h1
    exact ⟨e_con p.1 q1, w_con p.2.1 q2⟩
theorem disL_ok : ∀ {es : List Expr} {cs : List E} {code : E}, Paired (EOk X ta Φ Ψ) es cs → disL cs = some code → PE X (.BoolOp .Or es pos) (tE X.K ta Φ Ψ code) ∧ PW X (.BoolOp .Or es pos) (tT X.K ta Φ Ψ code)
  | [], [], _, _, h => by cases h
  | [e], [c], code, .cons p .nil, h => by cases h; exact ⟨pe_one p.1, pw_or1 p.2.1⟩
  | e :: e2 :: es, c :: c2 :: cs, code, .cons p r, h => by
    unfold disL at h
    obtain ⟨x, h1, h⟩ := map_some h
    subst h
    obtain ⟨q1, q2⟩ := disL_ok r h1
    exact ⟨e_dis p.1 q1, w_dis p.2.1 q2⟩
theorem cBool_ok (hf : ∀ e code, f e = some code → EOk X ta Φ Ψ e code) {op : BoolOp} {vs : List Expr} (h : cBool f op vs = some code) : PE X (.BoolOp op vs pos) (tE X.K ta Φ Ψ code) ∧ PT X (.BoolOp op vs pos) (tT X.K ta Φ Ψ code) := by
  unfold cBool at h
  obtain ⟨cs, h1, h⟩ := bind_some h
  obtain ⟨_, _, q⟩ := cEs_ok hf h1
  cases op with
  | And => obtain ⟨a1, a2⟩ := conL_ok (pos := pos) q h; exact ⟨a1, a2.pt⟩
  | Or => obtain ⟨a1, a2⟩ := disL_ok (pos := pos) q h; exact ⟨a1, a2.pt⟩
theorem isRev_ok {o : Option Expr} (h : isRev o = true) : ∃ k p1 p2, o = some (.UnaryOp .USub (.Constant (.int 1) k p1) p2) := by
  unfold isRev at h
  split at h
  · rename_i i k p1 p2
    have := of_decide_eq_true h
    subst this
    exact ⟨_, _, _, rfl⟩
  · cases h
theorem cSub_ok (hf : ∀ e code, f e = some code → EOk X ta Φ Ψ e code) {s : Expr} (h : cSub f a s = some code) : PE X (.Subscript a s pos) (tE X.K ta Φ Ψ code) := by
  unfold cSub at h
  split at h
  · split at h
    · split at h
      · obtain ⟨x, h1, h⟩ := map_some h
        subst h
        exact e_slcA (hf _ _ h1).1
      · obtain ⟨x, h1, h⟩ := bind_some h
        obtain ⟨y, h2, h⟩ := map_some h
        subst h
        exact e_slcL (hf _ _ h1).1 (hf _ _ h2).1
      · obtain ⟨x, h1, h⟩ := bind_some h
        obtain ⟨y, h2, h⟩ := map_some h
        subst h
        exact e_slcH (hf _ _ h1).1 (hf _ _ h2).1
      · obtain ⟨x, h1, h⟩ := bind_some h
        obtain ⟨y, h2, h⟩ := bind_some h
        obtain ⟨z, h3, h⟩ := map_some h
        subst h
        exact e_slc (hf _ _ h1).1 (hf _ _ h2).1 (hf _ _ h3).1
    · split at h
      · split at h
        · rename_i hr
          obtain ⟨k, p1, p2, e⟩ := isRev_ok hr
          subst e
          obtain ⟨x, h1, h⟩ := map_some h
          subst h
          exact e_rev (hf _ _ h1).1
        · cases h
      · cases h
  · rename_i hs
    obtain ⟨x, h1, h⟩ := bind_some h
    obtain ⟨y, h2, h⟩ := map_some h
    subst h
    refine e_idx (hf _ _ h1).1 (hf _ _ h2).1 ?_
    intro o i
    cases s <;> first | rfl | exact absurd rfl (hs _ _ _ _)
theorem cVar_ok (C : CxOk X c Φ Ψ) {x : Str} {i : Nat} (h : cVar c x = some i) : PE X (.Name x pos) (tVar i) := by
  unfold cVar at h
  split at h
  · rename_i hb
    rw [Bool.and_eq_true] at hb
    obtain ⟨q1, q2, q3⟩ := okName_ok hb.2
    exact pe_var (by rw [C.hN]; exact ixOf_get h) (by rw [C.sc]; exact visB_ok hb.1) q1 q2
  · cases h
theorem bl_ok {x : Str} {b : Bl} (h : blNames.lookup x = some b) : (bootBuiltins x = some (blV b) ∧ b ≠ .sorted ∧ b ≠ .bitlen) ∧ ((∃ id, blV b = .builtin id) ∨ ∃ id, blV b = .type id) := by
  have key : ∀ (l : List (Str × Bl)), (∀ p ∈ l, (bootBuiltins p.1 = some (blV p.2) ∧ p.2 ≠ .sorted ∧ p.2 ≠ .bitlen) ∧ ((∃ id, blV p.2 = .builtin id) ∨ ∃ id, blV p.2 = .type id)) → l.lookup x = some b →
      (bootBuiltins x = some (blV b) ∧ b ≠ .sorted ∧ b ≠ .bitlen) ∧ ((∃ id, blV b = .builtin id) ∨ ∃ id, blV b = .type id) := by
    intro l
    induction l with
    | nil => intro _ h; cases h
    | cons p r ih =>
      intro hp h
      rw [List.lookup_cons] at h
      cases hb : x == p.1 with
      | true =>
        rw [hb] at h
        cases h
        have e : x = p.1 := by simpa using hb
        rw [e]
        exact hp p List.mem_cons_self
      | false =>
        rw [hb] at h
        exact ih (fun q hq => hp q (List.mem_cons_of_mem _ hq)) h
  refine key blNames ?_ h
  intro p hp
  unfold blNames at hp
  simp only [List.mem_cons, List.not_mem_nil, or_false] at hp
  rcases hp with rfl | rfl | rfl | rfl | rfl | rfl | rfl | rfl | rfl | rfl
  · exact ⟨⟨boot_len, by decide, by decide⟩, .inl ⟨_, rfl⟩⟩
  · exact ⟨⟨boot_abs, by decide, by decide⟩, .inl ⟨_, rfl⟩⟩
  · exact ⟨⟨boot_min, by decide, by decide⟩, .inl ⟨_, rfl⟩⟩
  · exact ⟨⟨boot_max, by decide, by decide⟩, .inl ⟨_, rfl⟩⟩
  · exact ⟨⟨PyProof.Rows.boot_int, by decide, by decide⟩, .inr ⟨_, rfl⟩⟩
  · exact ⟨⟨PyProof.Rows.boot_tuple, by decide, by decide⟩, .inr ⟨_, rfl⟩⟩
  · exact ⟨⟨PyProof.Rows.boot_list, by decide, by decide⟩, .inr ⟨_, rfl⟩⟩
  · exact ⟨⟨boot_sum, by decide, by decide⟩, .inl ⟨_, rfl⟩⟩
  · exact ⟨⟨boot_any, by decide, by decide⟩, .inl ⟨_, rfl⟩⟩
  · exact ⟨⟨boot_all, by decide, by decide⟩, .inl ⟨_, rfl⟩⟩
theorem cCall_ok (C : CxOk X c Φ Ψ) (hf : ∀ e code, f e = some code → EOk X ta Φ Ψ e code) {fn : Expr} {args : List Expr} {kws : List Keyword} (h : cCall c f fn args kws pos = some code) : PE X (.Call fn args kws pos) (tE X.K ta Φ Ψ code) := by
  unfold cCall at h
  split at h
  · rename_i x p e es
    split at h
    · rename_i hb
      rw [Bool.and_eq_true] at hb
      obtain ⟨q1, q2, q3⟩ := okName_ok hb.2
      have hg : Gl X x := glB_ok (by rw [C.sc]; exact hb.1)
      split at h
      · rename_i k hk
        obtain ⟨cs, h1, h⟩ := map_some h
        subst h
        obtain ⟨a1, a2, _⟩ := cEs_ok hf h1
        obtain ⟨kk, fa, fd, ps, F, hr, hm, hkp, hbd⟩ := C.fns k x (ixOf_get hk)
        exact e_call F hr hg hm hkp hbd a1 q1 (star_ns (a2 e List.mem_cons_self)) (star_any fun e' he' => a2 e' (List.mem_cons_of_mem _ he'))
      · split at h
        · rename_i k hk
          split at h
          · rename_i d dp
            obtain ⟨i, hi, h⟩ := bind_some h
            obtain ⟨cs, h1, h⟩ := map_some h
            subst h
            obtain ⟨a1, a2, _⟩ := cEs_ok hf h1
            obtain ⟨hΨ, kk, fa, fd, ps, F, hr, hm, hkp, hbd⟩ := C.fts k x (ixOf_get hk)
            exact e_callT F hr hg hm hkp hbd hΨ (cVar_ok C hi) a1 q1 (star_ns rfl) (star_any a2)
          · cases h
        · split at h
          · rename_i hbl
            obtain ⟨b, hb1, h⟩ := bind_some h
            obtain ⟨cs, h1, h⟩ := map_some h
            subst h
            obtain ⟨a1, a2, _⟩ := cEs_ok hf h1
            obtain ⟨⟨b1, b2, b3⟩, b4⟩ := bl_ok hb1
            have hm := C.bl x hbl
            rcases b4 with ⟨id, b4⟩ | ⟨id, b4⟩
            · exact e_blB b4 C.calm C.hu b2 b3 hg hm (by rw [b1, b4]) a1 q3 q1 (star_ns (a2 e List.mem_cons_self)) (star_any fun e' he' => a2 e' (List.mem_cons_of_mem _ he'))
            · exact e_blT b4 C.calm C.hu b2 b3 hg hm (by rw [b1, b4]) a1 q3 q1 (star_ns (a2 e List.mem_cons_self)) (star_any fun e' he' => a2 e' (List.mem_cons_of_mem _ he'))
          · cases h
    · cases h
  · split at h
    · rename_i hb
      obtain ⟨x, h1, h⟩ := map_some h
      subst h
      have e1 := hb.1
      subst e1
      exact e_bits (hf _ _ h1).1 rfl hb.2
    · cases h
  · cases h
end
end Ev

/-! ## Ev10 -/
namespace Ev
open PySem PySem.Spec PyProof.Rows L2

section
variable {X : Cx} {ta : Ta} {Φ : Nat → List D → Option R} {Ψ : Nat → List D → Tp → Option (R × Tp)} {c : Cc} {f g : Expr → Option E} {e a b : Expr} {es : List Expr} {code : E} {cs : List E} {pos : Pos}
/-- names that may be stored -/
def StoOk (X : Cx) (x : Str) : Prop := Loc X.env.scope x ∧ (X.fn x = true ∨ X.env.scope.names.lookup x = some .local)
theorem cTgs_ok (hN : X.N = c.N) (nd : c.N.Nodup) : ∀ {es : List Expr} {xs : List (Str × Nat)}, cTgs c es = some xs → (∀ p ∈ xs, StoOk X p.1) → PGs X es (gNms (xs.map (·.2))) ∧ (assignEach es X.env).length = xs.length ∧ (assignEach es X.env).findIdx? (·.1) = none ∧ ∀ p ∈ xs, c.N[p.2]? = some p.1
  | [], xs, h, _ => by
    cases h
    exact ⟨pgs_nil, rfl, rfl, (fun _ h => by cases h)⟩
  | e :: es, xs, h, hs => by
    cases e <;> simp only [cTgs] at h <;> try cases h
    rename_i x p
    split at h
    · obtain ⟨i, hi, h⟩ := bind_some h
      obtain ⟨ys, h2, h⟩ := map_some h
      subst h
      obtain ⟨q1, q2, q3, q4⟩ := cTgs_ok hN nd h2 fun p hp => hs p (List.mem_cons_of_mem _ hp)
      obtain ⟨s1, s2⟩ := hs (x, i) List.mem_cons_self
      refine ⟨pgs_cons (pg_name (by rw [hN]; exact nd) (by rw [hN]; exact ixOf_get hi) s1 s2) q1 rfl, ?_, ?_, fun p hp => ?_⟩
      · show (assignEach es X.env).length + 1 = ys.length + 1
        rw [q2]
      · show List.findIdx? _ ((false, _) :: assignEach es X.env) = none
        rw [List.findIdx?_cons, q3]
        rfl
      · rcases List.mem_cons.mp hp with rfl | hp
        · exact ixOf_get hi
        · exact q4 p hp
    · cases h
theorem cTg_ok (hN : X.N = c.N) (nd : c.N.Nodup) (hc : X.calm = true) {tg : Expr} {t : Tg × List (Str × Nat)} (h : cTg c tg = some t) (hs : ∀ p ∈ t.2, StoOk X p.1) : PG X tg (gT X.K t.1) := by
  unfold cTg at h
  split at h
  · split at h
    · obtain ⟨i, hi, h⟩ := map_some h
      subst h
      obtain ⟨s1, s2⟩ := hs (_, i) List.mem_cons_self
      exact pg_name (by rw [hN]; exact nd) (by rw [hN]; exact ixOf_get hi) s1 s2
    · cases h
  · obtain ⟨xs, h1, h⟩ := map_some h
    subst h
    obtain ⟨q1, q2, q3, _⟩ := cTgs_ok hN nd h1 hs
    exact pg_tup hc q1 (by rw [q2, List.length_map]) q3
  · cases h
theorem cTg_vs {tg : Expr} {t : Tg × List (Str × Nat)} (h : cTg c tg = some t) : t.2.map (·.2) = tgVs t.1 := by
  unfold cTg at h
  split at h
  · split at h
    · obtain ⟨i, hi, h⟩ := map_some h
      subst h
      rfl
    · cases h
  · obtain ⟨xs, h1, h⟩ := map_some h
    subst h
    rfl
  · cases h
theorem cIt_ok (C : CxOk X c Φ Ψ) (hf : ∀ e code, f e = some code → EOk X ta Φ Ψ e code) {tg : Expr} {it : Nat × List E} (h : cIt c f e = some it) : PI X tg e (tIt X.K ta Φ Ψ it.1 it.2) ∧ ∀ x, foldedSetIterable e X.env x = pure x := by
  have seq : ∀ {e : Expr} {it : Nat × List E}, (f e).map (fun y => (0, [y])) = some it → PI X tg e (tIt X.K ta Φ Ψ it.1 it.2) ∧ ∀ x, foldedSetIterable e X.env x = pure x := fun {e it} h => by
    obtain ⟨y, h1, h⟩ := map_some h
    subst h
    obtain ⟨p, _, n⟩ := hf _ _ h1
    refine ⟨i_seq p, fun x => ?_⟩
    cases e <;> first | rfl | cases n
  unfold cIt at h
  split at h
  · rename_i x p a pos
    split at h
    · rename_i hb
      obtain ⟨y, h1, h⟩ := map_some h
      subst h
      have e1 := hb.1
      subst e1
      obtain ⟨p1, _, n1⟩ := hf _ _ h1
      exact ⟨i_rng1 (glB_ok (by rw [C.sc]; exact hb.2.1)) (C.bl _ hb.2.2) (as_cons p1 as_nil (star_ns n1)) (by rw [star_ns n1]; rfl), fun x => rfl⟩
    · exact seq h
  · rename_i x p a b pos
    split at h
    · rename_i hb
      obtain ⟨y, h1, h⟩ := bind_some h
      obtain ⟨z, h2, h⟩ := map_some h
      subst h
      have e1 := hb.1
      subst e1
      obtain ⟨p1, _, n1⟩ := hf _ _ h1
      obtain ⟨p2, _, n2⟩ := hf _ _ h2
      exact ⟨i_rng2 (glB_ok (by rw [C.sc]; exact hb.2.1)) (C.bl _ hb.2.2) (as_cons p1 (as_cons p2 as_nil (star_ns n2)) (star_ns n1)) (by rw [star_ns n1, star_ns n2]; rfl) (by rw [star_ns n2]; rfl), fun x => rfl⟩
    · exact seq h
  · exact seq h
theorem CxOk.blk (C : CxOk X c Φ Ψ) {scope : Scope} (hk : scope.kind = .function) (s : Shared) (H : Hp) (A : Addr) (cl : List (Str × Addr)) (fp : List Addr) : CxOk (X.blk s H scope (compEnvC scope cl A X.env) fp) { c with sc := relS scope c.sc } Φ Ψ where
  hN := C.hN
  nd := C.nd
  sc := by rw [← C.sc]; rfl
  kind := hk
  calm := C.calm
  xe := rfl
  hu := C.hu
  con := C.con
  bl := C.bl
  fns := C.fns
  fts := C.fts
theorem stoBlk {scope : Scope} {x : Str} (h : locB scope x = true) (s : Shared) (H : Hp) (A : Addr) (cl : List (Str × Addr)) (fp : List Addr) : StoOk (X.blk s H scope (compEnvC scope cl A X.env) fp) x := by
  rcases locB_ok h with q | q
  · have := lookup_relS_keep (sc := X.env.scope) (by decide) q
    exact ⟨.inl this, .inr this⟩
  · have := lookup_relS_keep (sc := X.env.scope) (by decide) q
    refine ⟨.inr this, .inl ?_⟩
    show (scope.names.lookup x == some .cell) = true
    rw [q]
    rfl
/-- a comprehension: as a value, and what its list comes to in a name's slot -/
theorem cComp_parts (C : CxOk X c Φ Ψ) (hf : ∀ e code, f e = some code → EOk X ta Φ Ψ e code) {scope : Scope} (hg : ∀ (X' : Cx), X'.K = X.K → CxOk X' { c with sc := relS scope c.sc } Φ Ψ → ∀ e code, g e = some code → EOk X' ta Φ Ψ e code) {elt : Expr} {gs : List Comprehension} (h : cComp c f g elt gs scope = some code) :
    ∃ tg iter ifs wi gg tt te own, gs = [⟨tg, iter, ifs, 0⟩] ∧ PI X tg iter wi ∧ BlkOk X.N X.env.scope scope own ∧ (∀ (s : Shared) (H : Hp) (A : Addr) (cl : List (Str × Addr)) (fp : List Addr), PG (X.blk s H scope (compEnvC scope cl A X.env) fp) tg gg) ∧
      (∀ (s : Shared) (H : Hp) (A : Addr) (cl : List (Str × Addr)) (fp : List Addr), PTs (X.blk s H scope (compEnvC scope cl A X.env) fp) ifs tt) ∧ (∀ (s : Shared) (H : Hp) (A : Addr) (cl : List (Str × Addr)) (fp : List Addr), PE (X.blk s H scope (compEnvC scope cl A X.env) fp) elt te) ∧
      (∀ x, foldedSetIterable iter X.env x = pure x) ∧ (∀ σ H Q, tE X.K ta Φ Ψ code σ H Q → tLc wi gg tt te (own.map (·.2)) σ H Q) := by
  unfold cComp at h
  split at h
  · rename_i tg iter ifs z
    split at h
    · rename_i hz
      obtain ⟨hz, hl⟩ := hz
      subst hz
      obtain ⟨t, ht, h⟩ := bind_some h
      split at h
      · rename_i hb
        rw [Bool.and_eq_true] at hb
        obtain ⟨it, hi, h⟩ := bind_some h
        obtain ⟨cs, hcs, h⟩ := bind_some h
        obtain ⟨x, hx, h⟩ := map_some h
        subst h
        obtain ⟨p1, p2⟩ := cIt_ok (tg := tg) C hf hi
        have bk : BlkOk X.N X.env.scope scope t.2 := by rw [C.hN, C.sc]; exact blkOk_by hb.1
        have CB := C.blk bk.kind
        refine ⟨tg, iter, ifs, _, gT X.K t.1, tAll X.K ta Φ Ψ cs, tU X.K ta Φ Ψ x, t.2, rfl, p1, bk, fun s H A cl fp => ?_, fun s H A cl fp => ?_, fun s H A cl fp => ?_, p2, fun σ H Q ⟨S, ρ, τ, r, τ', hR, hT, he, hQ⟩ => ?_⟩
        · exact cTg_ok (c := c) (X := X.blk s H scope (compEnvC scope cl A X.env) fp) C.hN C.nd C.calm ht fun p hp => stoBlk (List.all_eq_true.mp hb.2 p hp) s H A cl fp
        · cases ifs with
          | nil => cases hcs; exact c_nil
          | cons e r => cases r with
            | cons _ _ => simp at hl
            | nil =>
              unfold cEs at hcs
              obtain ⟨y, hy, hcs⟩ := bind_some hcs
              obtain ⟨ys, hys, hcs⟩ := map_some hcs
              cases hys
              subst hcs
              exact c_one (hg (X.blk s H scope (compEnvC scope cl A X.env) fp) rfl (CB s H A cl fp) _ _ hy).2.1
        · exact (hg (X.blk s H scope (compEnvC scope cl A X.env) fp) rfl (CB s H A cl fp) _ _ hx).1.use
        · rw [cTg_vs ht]
          exact comp_data hR hT he hQ
      · cases h
    · cases h
  · cases h
theorem cComp_ok (C : CxOk X c Φ Ψ) (hf : ∀ e code, f e = some code → EOk X ta Φ Ψ e code) {scope : Scope} (hg : ∀ (X' : Cx), X'.K = X.K → CxOk X' { c with sc := relS scope c.sc } Φ Ψ → ∀ e code, g e = some code → EOk X' ta Φ Ψ e code) {elt : Expr} {gs : List Comprehension} (h : cComp c f g elt gs scope = some code) :
    PE X (.ListComp elt gs scope pos) (tE X.K ta Φ Ψ code) := by
  obtain ⟨tg, iter, ifs, wi, gg, tt, te, own, rfl, h1, h2, h3, h4, h5, h6, h7⟩ := cComp_parts C hf hg h
  exact PE.weak (pe_lc C.calm (by rw [C.hN]; exact C.nd) h1 h2 h3 h4 h5 h6) h7
theorem t_ite {t : Expr} {ct ca cb : E} (ht : PT X t (tT X.K ta Φ Ψ ct)) (ha : PT X a (tT X.K ta Φ Ψ ca)) (hb : PT X b (tT X.K ta Φ Ψ cb)) : PT X (.IfExp t a b pos) (tT X.K ta Φ Ψ (.ite ct ca cb)) := by
  refine ⟨fun pins s σ H Q I ⟨S, ρ, τ, r, τ', k, hR, hT, he, hr, hQ⟩ => ?_⟩
  simp only [ev] at he
  obtain ⟨x, hx, he⟩ := bind_some he
  show wpAny _ _ (isTrue (.IfExp t a b pos) X.env _) _ _ _
  have e0 : ∀ w, isTrue (.IfExp t a b pos) X.env w = (isTrue t X.env (eval t X.env) >>= fun q => if q = true then isTrue a X.env (eval a X.env) else isTrue b X.env (eval b X.env)) := fun w => rfl
  rw [e0]
  split at he
  · rename_i q
    refine wpAny_bind (thn (ht.run pins s σ H (fun j H1 => j = true ∧ tT X.K ta Φ Ψ ca σ H1 Q) I ⟨S, ρ, τ, x.1, x.2, true, hR, hT, hx, q, fun S1 H1 st => ⟨rfl, S1, ρ, x.2, r, τ', k, hR.step st, st.tape, he, hr, fun S' H' st' => hQ S' H' (st.trans st')⟩⟩) fun j s1 ⟨H1, I1, e1, q1⟩ => ?_)
    subst e1
    rw [if_pos rfl]
    exact ha.run pins s1 σ H1 Q I1 q1
  · rename_i q
    refine wpAny_bind (thn (ht.run pins s σ H (fun j H1 => j = false ∧ tT X.K ta Φ Ψ cb σ H1 Q) I ⟨S, ρ, τ, x.1, x.2, false, hR, hT, hx, q, fun S1 H1 st => ⟨rfl, S1, ρ, x.2, r, τ', k, hR.step st, st.tape, he, hr, fun S' H' st' => hQ S' H' (st.trans st')⟩⟩) fun j s1 ⟨H1, I1, e1, q1⟩ => ?_)
    subst e1
    rw [if_neg Bool.false_ne_true]
    exact hb.run pins s1 σ H1 Q I1 q1
  · cases he
end
theorem compE_ok {ta : Ta} {Φ : Nat → List D → Option R} {Ψ : Nat → List D → Tp → Option (R × Tp)} : ∀ (n : Nat) (c : Cc) (X : Cx), CxOk X c Φ Ψ → ∀ (e : Expr) (code : E), compE n c e = some code → EOk X ta Φ Ψ e code := by
  intro n
  induction n with
  | zero => intro c X C e code h; cases h
  | succ n ih =>
    intro c X C e code h
    have hf := ih c X C
    unfold compE at h
    split at h
    · split at h <;> first | cases h | skip
      · exact .of (e_const pe_int fun _ => rfl) rfl (by intro _; rfl)
      · exact .of (e_const pe_bl fun _ => rfl) rfl (by intro _; rfl)
      · exact .of (e_const pe_non fun _ => rfl) rfl (by intro _; rfl)
      · exact .of (e_const pe_str fun _ => rfl) rfl (by intro _; rfl)
    · split at h
      · rename_i i hi
        cases h
        exact .of (e_var (cVar_ok C hi)) rfl (by intro _; rfl)
      · split at h
        · rename_i hb
          obtain ⟨d, hd, h⟩ := map_some h
          subst h
          rw [Bool.and_eq_true] at hb
          obtain ⟨v, u, h1, h2, h3⟩ := C.con _ _ hd
          obtain ⟨q1, q2, q3⟩ := okName_ok hb.2
          exact .of (e_const (pe_glob (glB_ok (by rw [C.sc]; exact hb.1)) h1 h2 q1) h3) rfl (by intro _; rfl)
        · cases h
    · obtain ⟨o, ho, h⟩ := bind_some h
      obtain ⟨x, hx, h⟩ := bind_some h
      obtain ⟨y, hy, h⟩ := map_some h
      subst h
      have eo := cOp_ok ho
      subst eo
      exact .of (e_bin (hf _ _ hx).1 (hf _ _ hy).1) rfl (by intro _; rfl)
    · split at h
      · obtain ⟨x, hx, h⟩ := map_some h
        subst h
        exact .of (e_neg (hf _ _ hx).1) rfl (by intro _; rfl)
      · obtain ⟨x, hx, h⟩ := map_some h
        subst h
        exact ⟨e_inv (hf _ _ hx).1, t_inv (hf _ _ hx).2.1, rfl⟩
      · cases h
    · obtain ⟨p, q⟩ := cCompare_ok C.hu hf h
      exact ⟨p, q, rfl⟩
    · obtain ⟨p, q⟩ := cBool_ok hf h
      exact ⟨p, q, rfl⟩
    · obtain ⟨x, hx, h⟩ := bind_some h
      obtain ⟨y, hy, h⟩ := bind_some h
      obtain ⟨z, hz, h⟩ := map_some h
      subst h
      exact ⟨e_ite (hf _ _ hx).2.1 (hf _ _ hy).1 (hf _ _ hz).1, t_ite (hf _ _ hx).2.1 (hf _ _ hy).2.1 (hf _ _ hz).2.1, rfl⟩
    · obtain ⟨cs, h1, h⟩ := map_some h
      subst h
      exact .of (e_tup (cEs_ok hf h1).1) rfl (by intro _; rfl)
    · obtain ⟨cs, h1, h⟩ := map_some h
      subst h
      exact .of (e_lst (cEs_ok hf h1).1) rfl (by intro _; rfl)
    · exact .of (cSub_ok hf h) rfl (by intro _; rfl)
    · exact .of (cCall_ok C hf h) rfl (by intro _; rfl)
    · exact .of (cComp_ok C hf (fun X' eK C' => ih _ X' C') h) rfl (by intro _; rfl)
    · cases h
end Ev

/-! ## Ev11 -/
namespace Ev
open PySem PySem.Spec PyProof.Rows L2

/-! ### statements -/
def starB : Expr → Bool
  | .Starred _ _ => true
  | _ => false
/-- what the swapped stores of a = b come to -/
def swK (sc : Scope) (ts : List Expr) (v : Expr) : Option (Option (List Str)) := match v with
  | .Tuple vs _ _ =>
    if (!(ts.length == 2 || ts.length == 3) || vs.length != ts.length) = true then some none
    else if vs.any starB = true then some none
    else
      let line := (ts.head?.map (·.pos.line)).getD 0
      let names := ts.filterMap fun
        | .Name id pos => if (sc.names.lookup id == some .local && pos.line == line) = true then some id else none
        | _ => none
      if (names.length != ts.length || names.eraseDups.length != names.length) = true then some none
      else if vs.all (foldedForSure 8) = true then some none
      else if vs.all (constantsAlone 8) = true then none
      else some (some names)
  | _ => some none
theorem swK_ok {sc : Scope} {ts : List Expr} {v : Expr} {env : Env} {k : Nat} {p : Pos} {r : Option (List Str)} (hs : env.scope = sc) (hk : sc.kind = .function) (h : swK sc ts v = some r) : swappedStores [.Tuple ts k p] v env = pure r := by
  have hb : env.blockKind = .function := by unfold Env.blockKind; rw [hs, hk]; rfl
  unfold swappedStores
  cases v <;> first
    | (simp only [swK] at h; cases h; rfl)
    | skip
  rename_i vs k2 p2
  simp only [swK] at h
  have hkind : ∀ x, env.kindOf x = sc.names.lookup x := fun x => by rw [← hs]; rfl
  simp only [hb, hkind, bne_self_eq_false, Bool.or_false]
  split at h
  · rename_i h1
    cases h
    exact if_pos h1
  · rename_i h1
    refine (if_neg h1).trans ?_
    split at h
    · rename_i h2
      cases h
      exact if_pos h2
    · rename_i h2
      refine (if_neg h2).trans ?_
      split at h
      · rename_i h3
        cases h
        exact if_pos h3
      · rename_i h3
        refine (if_neg h3).trans ?_
        split at h
        · rename_i h4
          cases h
          exact if_pos h4
        · rename_i h4
          refine (if_neg h4).trans ?_
          split at h
          · cases h
          · rename_i h5
            cases h
            refine (if_neg h5).trans ?_
            rfl
end Ev

/-! ## Ev12 -/
namespace Ev
open PySem PySem.Spec PyProof.Rows L2

def isLocal (sc : Scope) (x : Str) : Bool := decide (sc.names.lookup x = some .local)
def ownB (scope : Scope) (x : Str) : Bool := scope.names.any fun (n, k) => n == x && (k == .local || k == .cell)
/-- name = value -/
def cSet (c : Cc) (f g : Nat → Option E) (x : Str) (px : Pos) (v : Expr) (line : Nat) : Option S := none
def compB (v : Expr) : Bool := match v with
  | .ListComp _ _ _ _ => true
  | .SetComp _ _ _ _ => true
  | .DictComp _ _ _ _ _ => true
  | _ => false
def stoN (c : Cc) (x : Str) : Option Nat := if locB c.sc x && okName x then ixOf c.N x else none
def stoAll (c : Cc) (xs : List (Str × Nat)) : Bool := xs.all fun p => locB c.sc p.1
def cAsg (n : Nat) (c : Cc) (tg v : Expr) : Option S := match tg with
  | .Name x px => (stoN c x).bind fun i => match v with
    | .ListComp elt gs scope lp =>
      if isLocal c.sc x && (px.line == lp.line) && !ownB scope x then (cComp c (compE n c) (compE n { c with sc := relS scope c.sc }) elt gs scope).map fun y => .set (.nm i) y
      else if isLocal c.sc x then none else (compE n c v).map fun y => .set (.nm i) y
    | v => if compB v then none else (compE n c v).map fun y => .set (.nm i) y
  | .Tuple ts k p => match swK c.sc ts v with
    | some none => (cTg c (.Tuple ts k p)).bind fun t => if stoAll c t.2 then (compE n c v).map fun y => .set t.1 y else none
    | some (some names) => match ts, v with
      | [.Name x px, .Name y py], .Tuple [a, b] _ _ => if names = [x, y] ∧ x ≠ y ∧ isLocal c.sc x = true ∧ isLocal c.sc y = true then
          (stoN c x).bind fun i => (stoN c y).bind fun j => (compE n c a).bind fun ca => (compE n c b).map fun cb => .par2 i j ca cb else none
      | [.Name x px, .Name y py, .Name z pz], .Tuple [a, b, d] _ _ => if names = [x, y, z] ∧ (x ≠ y ∧ x ≠ z ∧ y ≠ z) ∧ isLocal c.sc x = true ∧ isLocal c.sc y = true ∧ isLocal c.sc z = true then
          (stoN c x).bind fun i => (stoN c y).bind fun j => (stoN c z).bind fun l => (compE n c a).bind fun ca => (compE n c b).bind fun cb => (compE n c d).map fun cd => .par3 i j l ca cb cd else none
      | _, _ => none
    | none => none
  | .Subscript (.Name x px) ix sp => (cVar c x).bind fun i => match ix with
    | .Slice _ _ _ _ => none
    | ix => (compE n c v).bind fun y => (compE n c ix).map fun z => .sti i z y
  | _ => none
def cMeth (n : Nat) (c : Cc) (x : Str) (m : Str) (ap cp : Pos) (args : List Expr) : Option S := if (ap.endLine == cp.line) = true then (cVar c x).bind fun i => match args with
    | [e] => if m = sAppend then (compE n c e).map fun y => .app i y else if m = sExtend then (compE n c e).map fun y => .ext i y else none
    | [] => if m = sPop then some (.pop i) else none
    | _ => none
  else none
def methB (e : Expr) : Option (Str × Pos × Str × Pos × List Expr × Pos) := match e with
  | .Call (.Attribute (.Name x p) m ap) args [] cp => some (x, p, m, ap, args, cp)
  | _ => none
mutual
def compS : Nat → Cc → Stmt → Option S
  | 0, _, _ => none
  | n + 1, c, st => match st with
    | .Assign ts v _ => match ts with
      | [tg] => cAsg n c tg v
      | _ => none
    | .AugAssign t op e _ => match t with
      | .Name x _ => (stoN c x).bind fun i => (cOp op).bind fun o => (compE n c e).map fun y => .aug i o y
      | _ => none
    | .Expr e _ => match methB e with
      | some q => cMeth n c q.1 q.2.2.1 q.2.2.2.1 q.2.2.2.2.2 q.2.2.2.2.1
      | none => if compB e then none else (compE n c e).map .exp
    | .Return v _ => match v with
      | none => some .retn
      | some e => match e with
        | .Name x _ => match cVar c x with
          | some i => some (.retv i)
          | none => (compE n c e).map .ret
        | e => (compE n c e).map .ret
    | .If t a b _ => (compE n c t).bind fun x => (compSs n c a).bind fun y => (compSs n c b).map fun z => .ite x y z
    | .While t b els _ => match els with
      | [] => (compE n c t).bind fun x => (compSs n c b).map fun y => .whl x y
      | _ => none
    | .For tg it b els _ => match els with
      | [] => (cTg c tg).bind fun t => if stoAll c t.2 then (compSs n c b).bind fun y => match it with
        | .Name x _ => match cVar c x with
          | some i => some (.forv t.1 i y)
          | none => (cIt c (compE n c) it).map fun z => .for_ t.1 z.1 z.2 y
        | it => (cIt c (compE n c) it).map fun z => .for_ t.1 z.1 z.2 y
        else none
      | _ => none
    | .Pass _ => some .pas
    | .Break _ => some .brk
    | .Continue _ => some .cnt
    | .Raise _ _ _ => some .nev
    | _ => none
def compSs : Nat → Cc → List Stmt → Option (List S)
  | 0, _, _ => none
  | n + 1, c, sts => match sts with
    | [] => some []
    | st :: r => (compS n c st).bind fun x => (compSs n c r).map fun xs => x :: xs
end
section
variable {X : Cx} {ta : Ta} {Φ : Nat → List D → Option R} {Ψ : Nat → List D → Tp → Option (R × Tp)} {c : Cc} {M n : Nat} {e a b tg v : Expr} {pos : Pos}
theorem stoN_ok (C : CxOk X c Φ Ψ) (hf : ∀ x, X.fn x = true) {x : Str} {i : Nat} (h : stoN c x = some i) : X.N[i]? = some x ∧ StoOk X x := by
  unfold stoN at h
  split at h
  · rename_i hb
    rw [Bool.and_eq_true] at hb
    exact ⟨by rw [C.hN]; exact ixOf_get h, by rw [← C.sc] at hb; exact locB_ok hb.1, .inl (hf x)⟩
  · cases h
theorem nd_of (C : CxOk X c Φ Ψ) : X.N.Nodup := by rw [C.hN]; exact C.nd
theorem stoAll_ok (C : CxOk X c Φ Ψ) (hf : ∀ x, X.fn x = true) {xs : List (Str × Nat)} (h : stoAll c xs = true) : ∀ p ∈ xs, StoOk X p.1 := fun p hp => ⟨by have := List.all_eq_true.mp h p hp; rw [← C.sc] at this; exact locB_ok this, .inl (hf _)⟩
theorem isLocal_ok (C : CxOk X c Φ Ψ) {x : Str} (h : isLocal c.sc x = true) : X.env.scope.names.lookup x = some .local := by rw [C.sc]; exact of_decide_eq_true h
theorem ix_ne {N : List Str} {i j : Nat} {x y : Str} (h1 : N[i]? = some x) (h2 : N[j]? = some y) (h : x ≠ y) : i ≠ j := fun e => by
  subst e
  rw [h1] at h2
  cases h2
  exact h rfl
theorem cAsg_ok (C : CxOk X c Φ Ψ) (hfn : ∀ x, X.fn x = true) {s : S} (h : cAsg n c tg v = some s) : PS X (.Assign [tg] v pos) (tSt X.K ta Φ Ψ M s) := by
  have hf := compE_ok (ta := ta) n c X C
  unfold cAsg at h
  split at h
  · rename_i x px
    obtain ⟨i, hi, h⟩ := bind_some h
    obtain ⟨s1, s2, s3⟩ := stoN_ok C hfn hi
    split at h
    · rename_i elt gs scope lp _
      split at h
      · rename_i hb
        simp only [Bool.and_eq_true, Bool.not_eq_true'] at hb
        obtain ⟨y, hy, h⟩ := map_some h
        subst h
        have hl := isLocal_ok C hb.1.1
        obtain ⟨tg, iter, ifs, wi, gg, tt, te, own, rfl, h1, h2, h3, h4, h5, h6, h7⟩ := cComp_parts C hf (fun X' eK C' => compE_ok n _ X' C') hy
        have hsw : swapsWith (.ListComp elt [⟨tg, iter, ifs, 0⟩] scope lp) (some (.Name x px)) pos.line X.env = pure true := sw_true (by rw [C.sc]; exact C.kind) hl hb.1.2 hb.2
        refine PS.weak (ps_setLc C.calm (nd_of C) s1 hl hsw h1 h2 h3 h4 h5 h6) fun D σ H hq => ?_
        exact h7 _ _ _ (set_data hq)
      · split at h
        · cases h
        · rename_i hb hnl
          obtain ⟨y, hy, h⟩ := map_some h
          subst h
          refine s_set (nd_of C) s1 s2 (hf _ _ hy).1 ?_ s3
          have hk : X.env.kindOf x ≠ some .local := fun z => hnl (decide_eq_true (by rw [← C.sc]; exact z))
          have hk2 : (X.env.kindOf x == some .local) = false := by simpa using hk
          unfold swapsWith
          simp only [hk2, Bool.and_false, Bool.false_and]
    · rename_i hnc
      split at h
      · cases h
      · rename_i hc
        obtain ⟨y, hy, h⟩ := map_some h
        subst h
        refine s_set (nd_of C) s1 s2 (hf _ _ hy).1 ?_ s3
        cases v <;> first | rfl | (exact absurd rfl hc)
  · rename_i ts k p
    split at h
    · rename_i hs
      obtain ⟨t, ht, h⟩ := bind_some h
      split at h
      · rename_i hst
        obtain ⟨y, hy, h⟩ := map_some h
        subst h
        refine s_asg (hf _ _ hy).1 (cTg_ok C.hN C.nd C.calm ht (stoAll_ok C hfn hst)) ?_ (swK_ok C.sc C.kind hs) rfl
        cases v <;> rfl
      · cases h
    · rename_i names hs
      split at h
      · rename_i x px y py a b k2 p2
        split at h
        · rename_i hb
          obtain ⟨e1, e2, e3, e4⟩ := hb
          obtain ⟨i, hi, h⟩ := bind_some h
          obtain ⟨j, hj, h⟩ := bind_some h
          obtain ⟨ca, ha, h⟩ := bind_some h
          obtain ⟨cb, hb, h⟩ := map_some h
          subst h e1
          obtain ⟨i1, i2⟩ := stoN_ok C hfn hi
          obtain ⟨j1, j2⟩ := stoN_ok C hfn hj
          have pa := hf _ _ ha
          have pb := hf _ _ hb
          exact s_par2 C.calm (nd_of C) i1 j1 (ix_ne i1 j1 e2) (isLocal_ok C e3) (isLocal_ok C e4) (as_cons pa.1 (as_cons pb.1 as_nil (star_ns pb.2.2)) (star_ns pa.2.2)) (swK_ok C.sc C.kind hs) rfl
        · cases h
      · rename_i x px y py z pz a b d k2 p2
        split at h
        · rename_i hb
          obtain ⟨e1, ⟨e2, e2b, e2c⟩, e3, e4, e5⟩ := hb
          obtain ⟨i, hi, h⟩ := bind_some h
          obtain ⟨j, hj, h⟩ := bind_some h
          obtain ⟨l, hl, h⟩ := bind_some h
          obtain ⟨ca, ha, h⟩ := bind_some h
          obtain ⟨cb, hb, h⟩ := bind_some h
          obtain ⟨cd, hd, h⟩ := map_some h
          subst h e1
          obtain ⟨i1, i2⟩ := stoN_ok C hfn hi
          obtain ⟨j1, j2⟩ := stoN_ok C hfn hj
          obtain ⟨l1, l2⟩ := stoN_ok C hfn hl
          have pa := hf _ _ ha
          have pb := hf _ _ hb
          have pd := hf _ _ hd
          have args := as_cons pa.1 (as_cons pb.1 (as_cons pd.1 as_nil (star_ns pd.2.2)) (star_ns pb.2.2)) (star_ns pa.2.2)
          have x1 := isLocal_ok C e3
          have x2 := isLocal_ok C e4
          have x3 := isLocal_ok C e5
          exact s_par3 C.calm (nd_of C) i1 j1 l1 (ix_ne i1 j1 e2) (ix_ne i1 l1 e2b) (ix_ne j1 l1 e2c) x1 x2 x3 args (ps_par3 C.calm (nd_of C) i1 j1 l1 (ix_ne i1 j1 e2) (ix_ne i1 l1 e2b) (ix_ne j1 l1 e2c) x1 x2 x3 args (swK_ok C.sc C.kind hs) rfl)
        · cases h
      · cases h
    · cases h
  · rename_i x px ix sp
    obtain ⟨i, hi, h⟩ := bind_some h
    split at h
    · cases h
    · rename_i hns
      obtain ⟨y, hy, h⟩ := bind_some h
      obtain ⟨z, hz, h⟩ := map_some h
      subst h
      refine s_sti (ps_asg (hf _ _ hy).1.use (pg_sub (cVar_ok C hi) (hf _ _ hz).1.use set_list ?_) ?_ ?_ rfl)
      · intro v'
        cases ix <;> first | rfl | exact absurd rfl (hns _ _ _ _)
      · cases v <;> rfl
      · cases v <;> rfl
  · cases h
theorem cMeth_ok (C : CxOk X c Φ Ψ) {x m : Str} {p ap cp : Pos} {args : List Expr} {s : S} (h : cMeth n c x m ap cp args = some s) : PS X (.Expr (.Call (.Attribute (.Name x p) m ap) args [] cp) pos) (tSt X.K ta Φ Ψ M s) := by
  have hf := compE_ok (ta := ta) n c X C
  unfold cMeth at h
  split at h
  · rename_i hl
    obtain ⟨i, hi, h⟩ := bind_some h
    split at h
    · rename_i e
      split at h
      · rename_i hm
        obtain ⟨y, hy, h⟩ := map_some h
        subst h hm
        obtain ⟨q1, _, q3⟩ := hf _ _ hy
        have hs := star_ns (es := []) (env := X.env) q3
        exact s_app (ps_expr (pe_bm PySem.F.plainAttrs_list PySem.F.slot_list_append PySem.F.type_list_append mt_append (cVar_ok C hi) (pa_cons q1.use pa_nil hs) rfl (by rw [hs]; rfl) hl hs rfl) rfl)
      · split at h
        · rename_i hm
          obtain ⟨y, hy, h⟩ := map_some h
          subst h hm
          obtain ⟨q1, _, q3⟩ := hf _ _ hy
          have hs := star_ns (es := []) (env := X.env) q3
          exact s_ext (ps_expr (pe_bm PySem.F.plainAttrs_list PySem.F.slot_list_extend PySem.F.type_list_extend mt_extend (cVar_ok C hi) (pa_cons q1.use pa_nil hs) rfl (by rw [hs]; rfl) hl hs rfl) rfl)
        · cases h
    · split at h
      · rename_i hm
        cases h
        subst hm
        exact s_pop (ps_expr (pe_bm0 PySem.F.plainAttrs_list PySem.F.slot_list_pop PySem.F.type_list_pop mt_pop (cVar_ok C hi) rfl hl) rfl)
      · cases h
    · cases h
  · cases h
theorem methB_ok {q : Str × Pos × Str × Pos × List Expr × Pos} (h : methB e = some q) : e = .Call (.Attribute (.Name q.1 q.2.1) q.2.2.1 q.2.2.2.1) q.2.2.2.2.1 [] q.2.2.2.2.2 := by
  unfold methB at h
  split at h
  · cases h; rfl
  · cases h
theorem comp_ok (C : CxOk X c Φ Ψ) (hfn : ∀ x, X.fn x = true) : ∀ n, (∀ st s, compS n c st = some s → PS X st (tSt X.K ta Φ Ψ M s)) ∧ ∀ sts ss, compSs n c sts = some ss → PSs X sts (tSts X.K ta Φ Ψ M ss) := by
  have hp : PassesOwn (model X.prog X.w) X.A X.env X.xe := by rw [C.xe]; exact PassesOwn.never
  intro n
  induction n with
  | zero => exact ⟨(fun _ _ h => by simp [compS] at h), (fun _ _ h => by simp [compSs] at h)⟩
  | succ n ih =>
    obtain ⟨ih1, ih2⟩ := ih
    have hf := compE_ok (ta := ta) n c X C
    constructor
    · intro st s h
      unfold compS at h
      split at h
      · split at h
        · exact cAsg_ok C hfn h
        · cases h
      · split at h
        · obtain ⟨i, hi, h⟩ := bind_some h
          obtain ⟨o, ho, h⟩ := bind_some h
          obtain ⟨y, hy, h⟩ := map_some h
          subst h
          have eo := cOp_ok ho
          subst eo
          obtain ⟨s1, s2, s3⟩ := stoN_ok C hfn hi
          exact s_aug (nd_of C) s1 s2 (hf _ _ hy).1 s3
        · cases h
      · split at h
        · rename_i q hq
          rw [methB_ok hq]
          exact cMeth_ok C h
        · split at h
          · cases h
          · rename_i e _ _ _ hc
            obtain ⟨y, hy, h⟩ := map_some h
            subst h
            refine s_exp (hf _ _ hy).1 ?_
            cases e <;> first | rfl | exact absurd rfl hc
      · split at h
        · cases h; exact s_retn
        · split at h
          · split at h
            · rename_i i hi
              cases h
              exact s_retv (cVar_ok C hi)
            · obtain ⟨y, hy, h⟩ := map_some h
              subst h
              exact s_ret (hf _ _ hy).1
          · obtain ⟨y, hy, h⟩ := map_some h
            subst h
            exact s_ret (hf _ _ hy).1
      · obtain ⟨x, hx, h⟩ := bind_some h
        obtain ⟨y, hy, h⟩ := bind_some h
        obtain ⟨z, hz, h⟩ := map_some h
        subst h
        exact s_ite (hf _ _ hx).2.1 (ih2 _ _ hy) (ih2 _ _ hz)
      · split at h
        · obtain ⟨x, hx, h⟩ := bind_some h
          obtain ⟨y, hy, h⟩ := map_some h
          subst h
          exact s_whl hp (hf _ _ hx).2.1 (ih2 _ _ hy)
        · cases h
      · split at h
        · obtain ⟨t, ht, h⟩ := bind_some h
          split at h
          · rename_i hst
            obtain ⟨y, hy, h⟩ := bind_some h
            have hg := cTg_ok C.hN C.nd C.calm ht (stoAll_ok C hfn hst)
            split at h
            · split at h
              · rename_i i hi
                cases h
                exact s_forv hp C.calm (cVar_ok C hi) hg (ih2 _ _ hy) fun x => rfl
              · obtain ⟨z, hz, h⟩ := map_some h
                subst h
                obtain ⟨p1, p2⟩ := cIt_ok C hf hz
                exact s_for hp C.calm p1 hg (ih2 _ _ hy) p2
            · obtain ⟨z, hz, h⟩ := map_some h
              subst h
              obtain ⟨p1, p2⟩ := cIt_ok C hf hz
              exact s_for hp C.calm p1 hg (ih2 _ _ hy) p2
          · cases h
        · cases h
      · cases h; exact s_pas
      · cases h; exact s_brk
      · cases h; exact s_cnt
      · cases h; exact s_nev
      · cases h
    · intro sts ss h
      unfold compSs at h
      split at h
      · cases h; exact s_nil
      · obtain ⟨x, hx, h⟩ := bind_some h
        obtain ⟨xs, hxs, h⟩ := map_some h
        subst h
        exact s_cons (ih1 _ _ hx) (ih2 _ _ hxs)
end

/-! ### defs -/
/-- what a body hands back -/
def retOf : Out → Option R
  | .rt r _ => some r
  | .nx _ _ => some ⟨.S, .none⟩
  | _ => none
def τ0 : Tp := ⟨[], 0, 0, 0⟩
/-- a def's slots at its entry -/
def start0 (N : Nat) (ds : List D) : Rho := ds.map Sl.im ++ List.replicate (N - ds.length) .un
theorem start_rel {K : PySem.W.Frag} {H : Hp} {N : List Str} {vs : List V} {ds : List D} (h : RpAll K H vs ds) (hl : ds.length ≤ N.length) : Rel K ⟨none, 0⟩ (start0 N.length ds) H (L2.start N vs) H := by
  have lv := h.length
  have noow : ∀ (i : Nat) (di : List D), (start0 N.length ds)[i]? = some (.ow di) → False := fun i di e => by
    unfold start0 at e
    rw [List.getElem?_append] at e
    split at e
    · rw [List.getElem?_map] at e
      cases q : ds[i]? with
      | none => rw [q] at e; cases e
      | some d => rw [q] at e; cases e
    · rw [List.getElem?_replicate] at e
      split at e <;> cases e
  refine ⟨?_, Same.refl _, fun i s e => ?_, fun i j di dj p e1 e2 e3 e4 => (noow i di e1).elim⟩
  · unfold start0 L2.start
    simp [lv]
  · unfold start0 at e
    rw [List.getElem?_append] at e
    split at e
    · rename_i hi
      rw [List.length_map] at hi
      rw [List.getElem?_map, List.getElem?_eq_getElem hi] at e
      cases e
      obtain ⟨v, e1, e2⟩ := h.get (List.getElem?_eq_getElem hi)
      refine ⟨v, ?_, e2⟩
      unfold L2.start
      rw [List.getElem?_append_left (by rw [List.length_map, lv]; exact hi), List.getElem?_map, e1]
      rfl
    · rw [List.getElem?_replicate] at e
      split at e
      · cases e; trivial
      · cases e
/-- what a caller has to know of the defs around -/
structure Env1 (P : Program) (w : World) (K : PySem.W.Frag) (mg : Str → Option Value) (base : Heap) (k : Nat) (c : Cc) (Φ : Nat → List D → Option R) (Ψ : Nat → List D → Tp → Option (R × Tp)) : Prop where
  con : ∀ x d, c.cs.lookup x = some d → ∃ v u, mg x = some u ∧ RelV v u ∧ ∀ H, Rp K H v d
  bl : ∀ x, c.bl.contains x = true → mg x = none
  fns : ∀ n x, c.fs[n]? = some x → ∃ f fd ps, FnOk P w K mg base CX0 k f fd ps (spP K (Φ n)) ∧ mg x = some (.ref f) ∧ PySem.W.keepIn K (.ref f) = true ∧ Binds K fd ps []
  fts : ∀ n x, c.ft[n]? = some x → (∀ ds τ r τ', Ψ n ds τ = some (r, τ') → τ'.cells = τ.cells) ∧ ∃ f fd ps, FnOk P w K mg base CX0 k f fd ps (spT K (Ψ n)) ∧ mg x = some (.ref f) ∧ PySem.W.keepIn K (.ref f) = true ∧ Binds K fd ps []
theorem Env1.cx {P : Program} {w : World} {K : PySem.W.Frag} {mg : Str → Option Value} {base : Heap} {k : Nat} {c : Cc} {Φ : Nat → List D → Option R} {Ψ : Nat → List D → Tp → Option (R × Tp)} (V : Env1 P w K mg base k c Φ Ψ) {ps : List Str} (hS : FnScope c.N ps c.sc)
    {qual : Str} {f : Addr} {cd : Value} {A : Around} {outer : List Env} {s : Shared} {H : Hp} {E : XK} (hr : Room k (A.deeper (envOfC qual c.sc s.heap.objs.size f cd))) : CxOk (cxOf CX0 P w K mg base c.N qual c.sc f cd A outer s H E).nox c Φ Ψ where
  hN := rfl
  nd := hS.nd
  sc := rfl
  kind := hS.kind
  calm := rfl
  xe := rfl
  hu := by have := hr.un; show (A.deeper _).units + 80 < cLine; omega
  con := V.con
  bl := V.bl
  fns := fun n x h => by
    obtain ⟨f, fd, ps, F, hm, hk, hb⟩ := V.fns n x h
    exact ⟨k, f, fd, ps, F, hr, hm, hk, hb⟩
  fts := fun n x h => by
    obtain ⟨h1, f, fd, ps, F, hm, hk, hb⟩ := V.fts n x h
    exact ⟨h1, k, f, fd, ps, F, hr, hm, hk, hb⟩
/-- THE RULE: a def keeps the promise that the evaluator tells -/
theorem fn_ev {P : Program} {w : World} {K : PySem.W.Frag} {mg : Str → Option Value} {base : Heap} {k : Nat} {c : Cc} {Φ : Nat → List D → Option R} {Ψ : Nat → List D → Tp → Option (R × Tp)} {x qual : Str} {st : Stmt} {f : Addr} {fd : FuncData} {ps : List Str} {code : List S} {fuel : Nat} {φ : List D → Option R}
    (V : Env1 P w K mg base k c Φ Ψ) (F : Fun K x qual st f fd) (hS : FnScope c.N ps c.sc) (hsc : c.sc = defScope st) (hc : compSs fuel c (defBody st) = some code) (hp : ps.length ≤ c.N.length)
    (hφ : ∀ ds r, φ ds = some r → ds.length = ps.length ∧ ∃ M o, evSs Φ Ψ M (start0 c.N.length ds) τ0 code = some o ∧ retOf o = some r) : FnOk P w K mg base CX0 (k + 1) f fd ps (spP K φ) := by
  refine F.ok (N := c.N) (by rw [← hsc]; exact hS) (fun vs H Q E h => ?_) (fun cdv A outer s H vs Q E hr h => ?_)
  · obtain ⟨ds, r, h1, h2, _⟩ := h
    rw [h1.length]
    exact (hφ ds r h2).1
  · obtain ⟨ds, r, h1, h2, hcl, hQ⟩ := h
    obtain ⟨hl, M, o, hev, hro⟩ := hφ ds r h2
    rw [← hsc] at hr ⊢
    have C := V.cx hS hr (outer := outer) (E := E) (H := H)
    refine ⟨_, (comp_ok (ta := ⟨none, 0⟩) (M := M) C (fun _ => rfl) fuel).2 _ _ hc, H, start0 c.N.length ds, τ0, o, start_rel h1 (by omega), (fun a e => by cases e), hev, ?_⟩
    cases o with
    | bk _ _ => cases hro
    | ct _ _ => cases hro
    | nx ρ1 τ1 =>
      cases hro
      intro σ' H' S' hs R' _
      exact hQ .non H' (hs.trans R'.sub) (show Rp K H' .non .none from rfl)
    | rt r' τ' =>
    cases hro
    intro v H' S' hs hs' _ hv
    refine hQ v H' (hs.trans hs') ?_
    obtain ⟨kd, d⟩ := r
    cases kd with
    | S => exact Rp.mono hs' d hv
    | B => exact hv.elim
    | F =>
      obtain ⟨p, ds', vs', e1, e2, e3, e4, e5, _⟩ := hv
      have n : H p = none := by
        cases z : H p with
        | none => rfl
        | some o => have := hs _ _ z; rw [e4] at this; cases this
      exact ⟨p, ds', vs', e1, e2, n, e3, RpAll.mono hs' ds' e5⟩
end Ev

/-! ## Ev13 -/
namespace Ev
open PySem PySem.Spec PyProof.Rows L2

/-! ### the law's tape: _law_begin, _law_take -/
def takeA (τ : Tp) (m v : Int) : Int × Tp := if v < 1000000000000000000 then (v.fmod m, ⟨τ.cells, τ.pos + 1, 0, τ.seed⟩) else (v.fmod m, ⟨τ.cells, τ.pos + 1, v.fdiv m, τ.seed⟩)
def takeB (τ : Tp) (m s : Int) : Int × Tp := ((s.fdiv 3).fmod m, ⟨τ.cells, τ.pos, τ.cur, s⟩)
def takeM (τ : Tp) (m : Int) : Int × Tp :=
  if τ.cur = 0 ∧ τ.pos < τ.cells.length then takeA τ m ((τ.cells.getD τ.pos 0).natAbs : Int)
  else if 0 < τ.cur then (τ.cur.fmod m, ⟨τ.cells, τ.pos, τ.cur.fdiv m, τ.seed⟩)
  else takeB τ m ((τ.seed * 48271 + 11).fmod 2147483647)
theorem takeA_cells (τ : Tp) (m v : Int) : (takeA τ m v).2.cells = τ.cells := by
  unfold takeA
  by_cases h : v < 1000000000000000000
  · rw [if_pos h]
  · rw [if_neg h]
theorem takeM_cells (τ : Tp) (m : Int) : (takeM τ m).2.cells = τ.cells := by
  unfold takeM
  by_cases h : τ.cur = 0 ∧ τ.pos < τ.cells.length
  · rw [if_pos h, takeA_cells]
  · rw [if_neg h]
    by_cases h2 : 0 < τ.cur
    · rw [if_pos h2]
    · rw [if_neg h2, takeB]
theorem fmod_range {x m : Int} (h : 0 < m) : 0 ≤ x.fmod m ∧ x.fmod m < m := ⟨Int.fmod_nonneg_of_pos x h, Int.fmod_lt_of_pos x h⟩
theorem takeA_range (τ : Tp) {m v : Int} (h : 0 < m) : 0 ≤ (takeA τ m v).1 ∧ (takeA τ m v).1 < m := by
  unfold takeA
  by_cases h1 : v < 1000000000000000000
  · rw [if_pos h1]; exact fmod_range h
  · rw [if_neg h1]; exact fmod_range h
theorem takeM_range (τ : Tp) {m : Int} (h : 0 < m) : 0 ≤ (takeM τ m).1 ∧ (takeM τ m).1 < m := by
  unfold takeM
  by_cases h1 : τ.cur = 0 ∧ τ.pos < τ.cells.length
  · rw [if_pos h1]; exact takeA_range τ h
  · rw [if_neg h1]
    by_cases h2 : 0 < τ.cur
    · rw [if_pos h2]; exact fmod_range h
    · rw [if_neg h2, takeB]; exact fmod_range h
def takeF : List D → Tp → Option (R × Tp)
  | [.int m], τ => if 0 < m ∧ m < 1073741824 then some (⟨.S, .int (takeM τ m).1⟩, (takeM τ m).2) else none
  | _, _ => none
theorem takeF_cells : ∀ (ds : List D) (τ : Tp) (r : R) (τ' : Tp), takeF ds τ = some (r, τ') → τ'.cells = τ.cells := by
  intro ds τ r τ' h
  unfold takeF at h
  split at h
  · split at h
    · cases h; exact takeM_cells _ _
    · cases h
  · cases h
/-! the readings of the tape's own expressions -/
section
variable {K : PySem.W.Frag}
def xIx (K : PySem.W.Frag) (i : Int) : TE := tOp (rIx K) (tVar 0) (tC (.int i))
def tTake (K : PySem.W.Frag) : TS :=
  tSeq (tIfS (tAnd (tTest (tOp rEq (xIx K 2) (tC (.int 0)))) (tTest (tOp (rI0 fun i j => .bl (decide (i < j))) (xIx K 1) (tCB (fun xs H Q => ∃ p ys, xs = [.ref p] ∧ (SqL K H p ys ∨ SqT K H p ys) ∧ Q (.int ys.length) H) (tCons (xIx K 0) tNil)))))
    (tSeq (tAsg (tCB (fun xs H Q => ∃ i, xs = [.int i] ∧ Q (.int (if i < 0 then -i else i)) H) (tCons (tCB (fun xs H Q => (∃ i, xs = [.int i] ∧ Q (.int i) H) ∨ ∃ k, xs = [.bl k] ∧ Q (.int (if k then 1 else 0)) H) (tCons (tOp (rIx K) (xIx K 0) (xIx K 1)) tNil)) tNil)) (gSub (tVar 0) (tC (.int 2)) rSetL))
    (tSeq (tAsg (tOp (rI0 fun i j => .int (i + j)) (xIx K 1) (tC (.int 1))) (gSub (tVar 0) (tC (.int 1)) rSetL))
      (tIfS (tTest (tOp (rI0 fun i j => .bl (decide (i < j))) (xIx K 2) (tOp (rI CPow fun i j => .int (i ^ j.toNat)) (tC (.int 10)) (tC (.int 18)))))
        (tSeq (tAsg (tCB (fun xs H Q => (∃ i, xs = [.int i] ∧ Q (.int i) H) ∨ ∃ k, xs = [.bl k] ∧ Q (.int (if k then 1 else 0)) H) (tCons (xIx K 2) tNil)) (gName 2))
          (tSeq (tAsg (tC (.int 0)) (gSub (tVar 0) (tC (.int 2)) rSetL)) (tRet (tOp (rI (fun _ j => j ≠ 0) fun i j => .int (i.fmod j)) (tVar 2) (tVar 1))))) tNext)))
    tNext)
  (tSeq (tIfS (tTest (tOp (rI0 fun i j => .bl (decide (j < i))) (xIx K 2) (tC (.int 0))))
    (tSeq (tAsg (tOp (rI (fun _ j => j ≠ 0) fun i j => .int (i.fmod j)) (tCB (fun xs H Q => (∃ i, xs = [.int i] ∧ Q (.int i) H) ∨ ∃ k, xs = [.bl k] ∧ Q (.int (if k then 1 else 0)) H) (tCons (xIx K 2) tNil)) (tVar 1)) (gName 3))
      (tSeq (tAsg (tOp (rI CDivN fun i j => .int (i.fdiv j)) (tCB (fun xs H Q => (∃ i, xs = [.int i] ∧ Q (.int i) H) ∨ ∃ k, xs = [.bl k] ∧ Q (.int (if k then 1 else 0)) H) (tCons (xIx K 2) tNil)) (tVar 1)) (gSub (tVar 0) (tC (.int 2)) rSetL))
        (tRet (tVar 3)))) tNext)
  (tSeq (tAsg (tOp (rI (fun _ j => j ≠ 0) fun i j => .int (i.fmod j)) (tCB (fun xs H Q => (∃ i, xs = [.int i] ∧ Q (.int i) H) ∨ ∃ k, xs = [.bl k] ∧ Q (.int (if k then 1 else 0)) H) (tCons (tOp (rI0 fun i j => .int (i + j)) (tOp (rI CMul fun i j => .int (i * j)) (xIx K 3) (tC (.int 48271))) (tC (.int 11))) tNil)) (tC (.int 2147483647))) (gSub (tVar 0) (tC (.int 3)) rSetL))
    (tRet (tOp (rI (fun _ j => j ≠ 0) fun i j => .int (i.fmod j)) (tCB (fun xs H Q => (∃ i, xs = [.int i] ∧ Q (.int i) H) ∨ ∃ k, xs = [.bl k] ∧ Q (.int (if k then 1 else 0)) H) (tCons (tOp (rI CDivN fun i j => .int (i.fdiv j)) (xIx K 3) (tC (.int 3))) tNil)) (tVar 1)))))
theorem ix_ok {σ : L2.St} {H : Hp} {a : Addr} {xs : List V} {i : Nat} {v : V} {Q : VK} (h0 : σ[0]? = some (some (.ref a))) (h : H a = some (.lst xs)) (hv : xs[i]? = some v) (q : Q v H) : xIx K (i : Int) σ H Q :=
  ⟨_, h0, .inl ⟨a, xs, i, v, rfl, rfl, SqL.of h, atI_nat hv, q⟩⟩
theorem st_ok {σ : L2.St} {H : Hp} {a : Addr} {xs : List V} {i : Nat} {v : V} {Q : L2.St → Hp → Prop} (h0 : σ[0]? = some (some (.ref a))) (h : H a = some (.lst xs)) (hi : i < xs.length) (q : Q σ (upd H a (.lst (xs.set i v)))) : gSub (tVar 0) (tC (.int (i : Int))) rSetL v σ H Q :=
  ⟨_, h0, a, xs, i, i, rfl, rfl, h, by unfold ixN; rw [if_pos (by omega), if_pos (by omega)]; rfl, q⟩
theorem e18 : (10 : Int) ^ (18 : Int).toNat = 1000000000000000000 := by decide +kernel
theorem take_run {a : Addr} {b : Addr} {τ : Tp} {m : Int} {H : Hp} {D : Ends} (ht : TapeAt K (del H a) H a b τ) (hm : 0 < m ∧ m < 1073741824)
    (hQ : ∀ H', Same (del H a) (del H' a) → TapeAt K (del H' a) H' a b (takeM τ m).2 → D.rt (.int (takeM τ m).1) H') : tTake K D [some (.ref a), some (.int m), none, none] H := by
  obtain ⟨_, hA, hB⟩ := ht
  have fin : ∀ (H' : Hp) (τ' : Tp), τ'.cells = τ.cells → del H' a = del H a → H' a = some (.lst [.ref b, .int (τ'.pos : Int), .int τ'.cur, .int τ'.seed]) → TapeAt K (del H' a) H' a b τ' := fun H' τ' e1 e2 e3 => ⟨del_same, e3, by rw [e1, e2]; exact hB⟩
  have sm : ∀ {H' : Hp}, del H' a = del H a → Same (del H a) (del H' a) := fun {H'} e => by rw [e]; exact Same.refl _
  have hBH : SqL K H b (τ.cells.map V.int) := del_sub.seq hB
  have hnz : m ≠ 0 := by omega
  -- the second part: from the second if on
  have second : ∀ (τ1 : Tp) (H1 : Hp) (x2 : Option V), τ1.cells = τ.cells → del H1 a = del H a → H1 a = some (.lst [.ref b, .int (τ1.pos : Int), .int τ1.cur, .int τ1.seed]) →
      (0 < τ1.cur → ∀ H', del H' a = del H a → H' a = some (.lst [.ref b, .int (τ1.pos : Int), .int (τ1.cur.fdiv m), .int τ1.seed]) → D.rt (.int (τ1.cur.fmod m)) H') →
      (¬ 0 < τ1.cur → ∀ H', del H' a = del H a → H' a = some (.lst [.ref b, .int (τ1.pos : Int), .int τ1.cur, .int ((τ1.seed * 48271 + 11).fmod 2147483647)]) → D.rt (.int ((((τ1.seed * 48271 + 11).fmod 2147483647).fdiv 3).fmod m)) H') →
      (tSeq (tIfS (tTest (tOp (rI0 fun i j => .bl (decide (j < i))) (xIx K 2) (tC (.int 0))))
    (tSeq (tAsg (tOp (rI (fun _ j => j ≠ 0) fun i j => .int (i.fmod j)) (tCB (fun xs H Q => (∃ i, xs = [.int i] ∧ Q (.int i) H) ∨ ∃ k, xs = [.bl k] ∧ Q (.int (if k then 1 else 0)) H) (tCons (xIx K 2) tNil)) (tVar 1)) (gName 3))
      (tSeq (tAsg (tOp (rI CDivN fun i j => .int (i.fdiv j)) (tCB (fun xs H Q => (∃ i, xs = [.int i] ∧ Q (.int i) H) ∨ ∃ k, xs = [.bl k] ∧ Q (.int (if k then 1 else 0)) H) (tCons (xIx K 2) tNil)) (tVar 1)) (gSub (tVar 0) (tC (.int 2)) rSetL))
        (tRet (tVar 3)))) tNext)
  (tSeq (tAsg (tOp (rI (fun _ j => j ≠ 0) fun i j => .int (i.fmod j)) (tCB (fun xs H Q => (∃ i, xs = [.int i] ∧ Q (.int i) H) ∨ ∃ k, xs = [.bl k] ∧ Q (.int (if k then 1 else 0)) H) (tCons (tOp (rI0 fun i j => .int (i + j)) (tOp (rI CMul fun i j => .int (i * j)) (xIx K 3) (tC (.int 48271))) (tC (.int 11))) tNil)) (tC (.int 2147483647))) (gSub (tVar 0) (tC (.int 3)) rSetL))
    (tRet (tOp (rI (fun _ j => j ≠ 0) fun i j => .int (i.fmod j)) (tCB (fun xs H Q => (∃ i, xs = [.int i] ∧ Q (.int i) H) ∨ ∃ k, xs = [.bl k] ∧ Q (.int (if k then 1 else 0)) H) (tCons (tOp (rI CDivN fun i j => .int (i.fdiv j)) (xIx K 3) (tC (.int 3))) tNil)) (tVar 1))))) D [some (.ref a), some (.int m), x2, none] H1 := by
    intro τ1 H1 x2 e1 e2 e3 p1 p2
    refine ix_ok (i := 2) rfl e3 rfl ⟨τ1.cur, 0, rfl, rfl, _, rfl, ite2 (fun h => ?_) (fun h => ?_)⟩
    · have hpos : 0 < τ1.cur := of_decide_eq_true h
      refine ix_ok (i := 2) rfl e3 rfl (.inl ⟨_, rfl, _, rfl, _, _, rfl, rfl, hnz, ?_⟩)
      refine ix_ok (i := 2) rfl e3 rfl (.inl ⟨_, rfl, _, rfl, _, _, rfl, rfl, ⟨hnz, by omega⟩, ?_⟩)
      refine st_ok (i := 2) rfl e3 (by simp) ⟨_, rfl, ?_⟩
      exact p1 hpos _ (by rw [del_upd, e2]) upd_same
    · have hpos : ¬ 0 < τ1.cur := fun z => h (decide_eq_true z)
      refine ix_ok (i := 3) rfl e3 rfl ⟨_, _, rfl, rfl, .inr ⟨by decide, by decide⟩, _, _, rfl, rfl, .inl ⟨_, rfl, _, _, rfl, rfl, (by show (2147483647 : Int) ≠ 0; decide), ?_⟩⟩
      refine st_ok (i := 3) rfl e3 (by simp) ?_
      refine ix_ok (i := 3) rfl upd_same rfl ⟨_, _, rfl, rfl, ⟨by decide, by decide⟩, .inl ⟨_, rfl, _, rfl, _, _, rfl, rfl, hnz, ?_⟩⟩
      exact p2 hpos _ (by rw [del_upd, e2]) upd_same
  -- the first if
  refine ix_ok (i := 2) rfl hA rfl ⟨rfl, _, rfl, ite2 (fun h => ?_) (fun h => ?_)⟩
  · have h0 : τ.cur = 0 := V.int.inj (of_decide_eq_true h)
    refine ix_ok (i := 1) rfl hA rfl (ix_ok (i := 0) rfl hA rfl ⟨b, _, rfl, .inl hBH, _, _, rfl, rfl, _, rfl, ite2 (fun h1 => ?_) (fun h1 => ?_)⟩)
    · have hlt : τ.pos < τ.cells.length := by
        have := of_decide_eq_true h1
        rw [List.length_map] at this
        omega
      refine ix_ok (i := 0) rfl hA rfl (ix_ok (i := 1) rfl hA rfl (.inl ⟨b, _, _, .int (τ.cells.getD τ.pos 0), rfl, rfl, hBH, atI_nat ?_, .inl ⟨_, rfl, _, rfl, ?_⟩⟩))
      · rw [List.getElem?_map, List.getElem?_eq_getElem hlt]
        simp [List.getD, List.getElem?_eq_getElem hlt]
      · have habs : (if τ.cells.getD τ.pos 0 < 0 then -(τ.cells.getD τ.pos 0) else τ.cells.getD τ.pos 0) = ((τ.cells.getD τ.pos 0).natAbs : Int) := by
          split <;> omega
        rw [habs]
        have htm : takeM τ m = if ((τ.cells.getD τ.pos 0).natAbs : Int) < 1000000000000000000 then ((((τ.cells.getD τ.pos 0).natAbs : Int)).fmod m, ⟨τ.cells, τ.pos + 1, 0, τ.seed⟩) else ((((τ.cells.getD τ.pos 0).natAbs : Int)).fmod m, ⟨τ.cells, τ.pos + 1, (((τ.cells.getD τ.pos 0).natAbs : Int)).fdiv m, τ.seed⟩) := by
          unfold takeM
          rw [if_pos ⟨h0, hlt⟩, takeA]
        generalize hv : ((τ.cells.getD τ.pos 0).natAbs : Int) = v at htm
        refine st_ok (i := 2) rfl hA (by simp) ?_
        refine ix_ok (i := 1) rfl upd_same rfl ⟨_, _, rfl, rfl, ?_⟩
        refine st_ok (i := 1) rfl upd_same (by simp) ?_
        rw [upd_upd]
        refine ix_ok (i := 2) rfl upd_same rfl ⟨_, _, rfl, rfl, ⟨by decide, by decide, by decide⟩, _, _, rfl, rfl, _, rfl, ite2 (fun h2 => ?_) (fun h2 => ?_)⟩
        · have h2' : v < 1000000000000000000 := by have := of_decide_eq_true h2; rw [e18] at this; exact this
          rw [if_pos h2'] at htm
          refine ix_ok (i := 2) rfl upd_same rfl (.inl ⟨_, rfl, ?_⟩)
          refine st_ok (i := 2) rfl upd_same (by simp) ⟨_, rfl, _, rfl, _, _, rfl, rfl, hnz, ?_⟩
          rw [upd_upd]
          have := hQ (upd H a (.lst [.ref b, .int ((τ.pos : Int) + 1), .int 0, .int τ.seed]))
          rw [htm] at this
          exact this (sm del_upd) (fin _ _ rfl del_upd (by rw [upd_same]; rfl))
        · have h2' : ¬ v < 1000000000000000000 := fun z => h2 (decide_eq_true (by rw [e18]; exact z))
          rw [if_neg h2'] at htm
          refine second ⟨τ.cells, τ.pos + 1, v, τ.seed⟩ _ none rfl del_upd upd_same (fun hp H' g1 g2 => ?_) (fun hp => ?_)
          · have := hQ H'
            rw [htm] at this
            exact this (sm g1) (fin _ _ rfl g1 g2)
          · have hv0 : (0 : Int) < v := by omega
            exact absurd hv0 hp
    · have hlt : ¬ τ.pos < τ.cells.length := fun z => h1 (decide_eq_true (by rw [List.length_map]; omega))
      have htm : takeM τ m = ((((τ.seed * 48271 + 11).fmod 2147483647).fdiv 3).fmod m, ⟨τ.cells, τ.pos, τ.cur, (τ.seed * 48271 + 11).fmod 2147483647⟩) := by
        unfold takeM
        rw [if_neg (fun z => hlt z.2), if_neg (by omega), takeB]
      refine second τ H none rfl rfl hA (fun hp => by omega) (fun hp H' g1 g2 => ?_)
      have := hQ H'
      rw [htm] at this
      exact this (sm g1) (fin _ _ rfl g1 g2)
  · have h0 : τ.cur ≠ 0 := fun z => h (decide_eq_true (by rw [z]))
    refine iteF ?_
    refine second τ H none rfl rfl hA (fun hp H' g1 g2 => ?_) (fun hp H' g1 g2 => ?_)
    · have htm : takeM τ m = (τ.cur.fmod m, ⟨τ.cells, τ.pos, τ.cur.fdiv m, τ.seed⟩) := by
        unfold takeM
        rw [if_neg (fun z => h0 z.1), if_pos hp]
      have := hQ H'
      rw [htm] at this
      exact this (sm g1) (fin _ _ rfl g1 g2)
    · have htm : takeM τ m = ((((τ.seed * 48271 + 11).fmod 2147483647).fdiv 3).fmod m, ⟨τ.cells, τ.pos, τ.cur, (τ.seed * 48271 + 11).fmod 2147483647⟩) := by
        unfold takeM
        rw [if_neg (fun z => h0 z.1), if_neg hp, takeB]
      have := hQ H'
      rw [htm] at this
      exact this (sm g1) (fin _ _ rfl g1 g2)
end
end Ev

/-! ## EvK -/
/-! the same evaluator once more, by the recursors and with forced numbers, lists and slots: for runs in the kernel -/
namespace Ev
open PySem PySem.Spec PyProof.Rows L2

/-! ### forcing -/
section
variable {β : Type}
noncomputable def frcN (n : Nat) (f : Nat → β) : β := @Nat.rec (fun _ => β) (f .zero) (fun m _ => f (.succ m)) n
theorem frcN_eq (n : Nat) (f : Nat → β) : frcN n f = f n := by cases n <;> rfl
noncomputable def frcI (i : Int) (f : Int → β) : β := @Int.rec (fun _ => β) (fun n => @Nat.rec (fun _ => β) (f (.ofNat .zero)) (fun m _ => f (.ofNat (.succ m))) n) (fun n => @Nat.rec (fun _ => β) (f (.negSucc .zero)) (fun m _ => f (.negSucc (.succ m))) n) i
theorem frcI_eq (i : Int) (f : Int → β) : frcI i f = f i := by
  cases i with
  | ofNat n => cases n <;> rfl
  | negSucc n => cases n <;> rfl
/-- a list's spine -/
noncomputable def frcL {α : Type} (l : List α) : (List α → β) → β := @List.rec α (fun _ => (List α → β) → β) (fun f => f []) (fun a _ ih f => ih fun r => f (a :: r)) l
theorem frcL_eq {α : Type} : ∀ (l : List α) (f : List α → β), frcL l f = f l
  | [], _ => rfl
  | a :: l, f => frcL_eq l _
noncomputable def frcB (b : Bool) (f : Bool → β) : β := @Bool.rec (fun _ => β) (f false) (f true) b
theorem frcB_eq (b : Bool) (f : Bool → β) : frcB b f = f b := by cases b <;> rfl
noncomputable def iteB (b : Bool) (x y : β) : β := @Bool.rec (fun _ => β) y x b
theorem iteB_eq (b : Bool) (x y : β) : iteB b x y = if b = true then x else y := by cases b <;> rfl
/-- an int, or else -/
noncomputable def dInt (d : D) (g : β) (f : Int → β) : β := @PyData.rec (fun _ => β) (fun _ => PUnit) (fun _ => PUnit) (fun _ => PUnit) g (fun _ => g) f (fun _ => g) (fun _ _ => g) (fun _ _ => g) (fun _ _ => g) ⟨⟩ (fun _ _ _ _ => ⟨⟩) ⟨⟩ (fun _ _ _ _ => ⟨⟩) (fun _ _ _ _ => ⟨⟩) d
noncomputable def dBool (d : D) (g : β) (f : Bool → β) : β := @PyData.rec (fun _ => β) (fun _ => PUnit) (fun _ => PUnit) (fun _ => PUnit) g f (fun _ => g) (fun _ => g) (fun _ _ => g) (fun _ _ => g) (fun _ _ => g) ⟨⟩ (fun _ _ _ _ => ⟨⟩) ⟨⟩ (fun _ _ _ _ => ⟨⟩) (fun _ _ _ _ => ⟨⟩) d
/-- two ways -/
noncomputable def dTest (d : D) (g x y : β) : β := @PyData.rec (fun _ => β) (fun _ => PUnit) (fun _ => PUnit) (fun _ => PUnit) g (fun b => @Bool.rec (fun _ => β) y x b) (fun _ => g) (fun _ => g) (fun _ _ => g) (fun _ _ => g) (fun _ _ => g) ⟨⟩ (fun _ _ _ _ => ⟨⟩) ⟨⟩ (fun _ _ _ _ => ⟨⟩) (fun _ _ _ _ => ⟨⟩) d
/-- a datum's head -/
noncomputable def frcD (d : D) (f : D → β) : β := @PyData.rec (fun _ => β) (fun _ => PUnit) (fun _ => PUnit) (fun _ => PUnit) (f .none) (fun b => @Bool.rec (fun _ => β) (f (.bool false)) (f (.bool true)) b) (fun i => frcI i fun i => f (.int i)) (fun x => f (.str x)) (fun l _ => frcL l fun l => f (.list l)) (fun l _ => frcL l fun l => f (.tuple l)) (fun l _ => f (.dict l)) ⟨⟩ (fun _ _ _ _ => ⟨⟩) ⟨⟩ (fun _ _ _ _ => ⟨⟩) (fun _ _ _ _ => ⟨⟩) d
theorem frcD_eq (d : D) (f : D → β) : frcD d f = f d := by
  cases d with
  | bool b => cases b <;> rfl
  | int i => exact frcI_eq i fun i => f (.int i)
  | list l => exact frcL_eq l fun l => f (.list l)
  | tuple l => exact frcL_eq l fun l => f (.tuple l)
  | _ => rfl
noncomputable def getK {α : Type} (l : List α) : Nat → Option α := @List.rec α (fun _ => Nat → Option α) (fun _ => none) (fun a _ ih n => @Nat.rec (fun _ => Option α) (some a) (fun n _ => ih n) n) l
theorem getK_eq {α : Type} : ∀ (l : List α) (n : Nat), getK l n = l[n]?
  | [], _ => by simp [getK]
  | _ :: _, 0 => rfl
  | _ :: l, n + 1 => by
    show getK l n = _
    simp [getK_eq l n]
noncomputable def setK {α : Type} (l : List α) : Nat → α → (List α → β) → β := @List.rec α (fun _ => Nat → α → (List α → β) → β) (fun _ _ f => f []) (fun a l ih n v f => @Nat.rec (fun _ => β) (f (v :: l)) (fun n _ => ih n v fun r => f (a :: r)) n) l
theorem setK_eq {α : Type} : ∀ (l : List α) (n : Nat) (v : α) (f : List α → β), setK l n v f = f (l.set n v)
  | [], _, _, _ => rfl
  | _ :: _, 0, _, _ => rfl
  | a :: l, n + 1, v, f => setK_eq l n v _
noncomputable def bnd (o : Option (R × Tp)) (f : Kd → D → Tp → Option β) : Option β := @Option.rec (R × Tp) (fun _ => Option β) none (fun x => @Prod.rec R Tp (fun _ => Option β) (fun r τ => @R.rec (fun _ => Option β) (fun k d => f k d τ) r) x) o
theorem bnd_eq (o : Option (R × Tp)) (f : Kd → D → Tp → Option β) : bnd o f = o.bind fun x => f x.1.k x.1.d x.2 := by cases o <;> rfl
noncomputable def bndP {α : Type} (o : Option (α × Tp)) (f : α → Tp → Option β) : Option β := @Option.rec (α × Tp) (fun _ => Option β) none (fun x => @Prod.rec α Tp (fun _ => Option β) f x) o
theorem bndP_eq {α : Type} (o : Option (α × Tp)) (f : α → Tp → Option β) : bndP o f = o.bind fun x => f x.1 x.2 := by cases o <;> rfl
end
/-- an answer, forced -/
noncomputable def outR (o : Option R) (τ : Tp) : Option (R × Tp) := @Option.rec R (fun _ => Option (R × Tp)) none (fun r => @R.rec (fun _ => Option (R × Tp)) (fun k d => frcD d fun d => some (⟨k, d⟩, τ)) r) o
theorem outR_eq (o : Option R) (τ : Tp) : outR o τ = o.map fun r => (r, τ) := by
  cases o with
  | none => rfl
  | some r => exact frcD_eq r.d fun d => some ((⟨r.k, d⟩ : R), τ)
noncomputable def retB (b : Bool) (τ : Tp) : Option (R × Tp) := @Bool.rec (fun _ => Option (R × Tp)) (some (⟨.S, .bool false⟩, τ)) (some (⟨.S, .bool true⟩, τ)) b
theorem retB_eq (b : Bool) (τ : Tp) : retB b τ = some (⟨.S, .bool b⟩, τ) := by cases b <;> rfl
noncomputable def outB (o : Option Bool) (τ : Tp) : Option (R × Tp) := @Option.rec Bool (fun _ => Option (R × Tp)) none (fun b => retB b τ) o
theorem outB_eq (o : Option Bool) (τ : Tp) : outB o τ = o.map fun r => (⟨.S, .bool r⟩, τ) := by
  cases o with
  | none => rfl
  | some r => exact retB_eq r τ
noncomputable def retI (z : Int) (τ : Tp) : Option (R × Tp) := @Int.rec (fun _ => Option (R × Tp)) (fun n => @Nat.rec (fun _ => Option (R × Tp)) (some (⟨.S, .int (.ofNat .zero)⟩, τ)) (fun m _ => some (⟨.S, .int (.ofNat (.succ m))⟩, τ)) n) (fun n => @Nat.rec (fun _ => Option (R × Tp)) (some (⟨.S, .int (.negSucc .zero)⟩, τ)) (fun m _ => some (⟨.S, .int (.negSucc (.succ m))⟩, τ)) n) z
theorem retI_eq (z : Int) (τ : Tp) : retI z τ = some (⟨.S, .int z⟩, τ) := by
  cases z with
  | ofNat n => cases n <;> rfl
  | negSucc n => cases n <;> rfl
/-! ### operations -/
noncomputable def addZ (i j : Int) : Int := @Int.rec (fun _ => Int) (fun m => @Int.rec (fun _ => Int) (fun n => .ofNat (Nat.add m n)) (fun n => Int.add (.ofNat m) (.negSucc n)) j) (fun m => Int.add (.negSucc m) j) i
theorem addZ_eq (i j : Int) : addZ i j = i + j := by cases i <;> cases j <;> rfl
noncomputable def mulZ (i j : Int) : Int := @Int.rec (fun _ => Int) (fun m => @Int.rec (fun _ => Int) (fun n => .ofNat (Nat.mul m n)) (fun n => Int.mul (.ofNat m) (.negSucc n)) j) (fun m => Int.mul (.negSucc m) j) i
theorem mulZ_eq (i j : Int) : mulZ i j = i * j := by cases i <;> cases j <;> rfl
noncomputable def absZ (i : Int) : Nat := @Int.rec (fun _ => Nat) (fun m => m) (fun m => .succ m) i
theorem absZ_eq (i : Int) : absZ i = i.natAbs := by cases i <;> rfl
noncomputable def subZ (i j : Int) : Int := @Int.rec (fun _ => Int) (fun m => @Int.rec (fun _ => Int) (fun n => @Bool.rec (fun _ => Int) (Int.negSucc (Nat.sub (Nat.sub n m) 1)) (.ofNat (Nat.sub m n)) (Nat.ble n m)) (fun n => .ofNat (Nat.add m (.succ n))) j) (fun m => Int.sub (.negSucc m) j) i
theorem subZ_eq (i j : Int) : subZ i j = i - j := by
  cases i with
  | negSucc m => rfl
  | ofNat m =>
    cases j with
    | negSucc n => rfl
    | ofNat n =>
      show @Bool.rec (fun _ => Int) (Int.negSucc ((n - m) - 1)) (.ofNat (m - n)) (Nat.ble n m) = (m : Int) - (n : Int)
      cases h : Nat.ble n m with
      | true =>
        have := Nat.le_of_ble_eq_true h
        show ((m - n : Nat) : Int) = _
        omega
      | false =>
        have : ¬ n ≤ m := fun g => by rw [Nat.ble_eq_true_of_le g] at h; cases h
        show Int.negSucc ((n - m) - 1) = _
        omega
noncomputable def ltZ (i j : Int) : Bool := @Int.rec (fun _ => Bool) (fun m => @Int.rec (fun _ => Bool) (fun n => Nat.ble (.succ m) n) (fun _ => false) j) (fun m => @Int.rec (fun _ => Bool) (fun _ => true) (fun n => Nat.ble (.succ n) m) j) i
noncomputable def leZ (i j : Int) : Bool := @Int.rec (fun _ => Bool) (fun m => @Int.rec (fun _ => Bool) (fun n => Nat.ble m n) (fun _ => false) j) (fun m => @Int.rec (fun _ => Bool) (fun _ => true) (fun n => Nat.ble n m) j) i
noncomputable def eqZ (i j : Int) : Bool := @Int.rec (fun _ => Bool) (fun m => @Int.rec (fun _ => Bool) (fun n => Nat.beq m n) (fun _ => false) j) (fun m => @Int.rec (fun _ => Bool) (fun _ => false) (fun n => Nat.beq m n) j) i
theorem ble_dec (m n : Nat) : Nat.ble m n = decide (m ≤ n) := by
  cases h : Nat.ble m n with
  | true => exact (decide_eq_true (Nat.le_of_ble_eq_true h)).symm
  | false => exact (decide_eq_false fun g => by rw [Nat.ble_eq_true_of_le g] at h; cases h).symm
theorem beq_dec (m n : Nat) : Nat.beq m n = decide (m = n) := by
  cases h : Nat.beq m n with
  | true => exact (decide_eq_true (Nat.eq_of_beq_eq_true h)).symm
  | false => exact (decide_eq_false (Nat.ne_of_beq_eq_false h)).symm
theorem ltZ_eq (i j : Int) : ltZ i j = decide (i < j) := by
  cases i <;> cases j
  · show Nat.ble _ _ = _
    rw [ble_dec]
    exact decide_eq_decide.mpr (by rw [Int.ofNat_eq_natCast, Int.ofNat_eq_natCast]; omega)
  · exact (decide_eq_false (by rw [Int.ofNat_eq_natCast]; omega)).symm
  · exact (decide_eq_true (by rw [Int.ofNat_eq_natCast]; omega)).symm
  · show Nat.ble _ _ = _
    rw [ble_dec]
    exact decide_eq_decide.mpr (by omega)
theorem leZ_eq (i j : Int) : leZ i j = decide (i ≤ j) := by
  cases i <;> cases j
  · show Nat.ble _ _ = _
    rw [ble_dec]
    exact decide_eq_decide.mpr (by rw [Int.ofNat_eq_natCast, Int.ofNat_eq_natCast]; omega)
  · exact (decide_eq_false (by rw [Int.ofNat_eq_natCast]; omega)).symm
  · exact (decide_eq_true (by rw [Int.ofNat_eq_natCast]; omega)).symm
  · show Nat.ble _ _ = _
    rw [ble_dec]
    exact decide_eq_decide.mpr (by omega)
theorem eqZ_eq (i j : Int) : eqZ i j = decide (i = j) := by
  cases i <;> cases j
  · show Nat.beq _ _ = _
    rw [beq_dec]
    exact decide_eq_decide.mpr (by rw [Int.ofNat_eq_natCast, Int.ofNat_eq_natCast]; omega)
  · exact (decide_eq_false (by rw [Int.ofNat_eq_natCast]; omega)).symm
  · exact (decide_eq_false (by rw [Int.ofNat_eq_natCast]; omega)).symm
  · show Nat.beq _ _ = _
    rw [beq_dec]
    exact decide_eq_decide.mpr (by omega)
noncomputable def fdivZ (i j : Int) : Int := @Int.rec (fun _ => Int) (fun m => @Int.rec (fun _ => Int) (fun n => .ofNat (Nat.div m n)) (fun n => Int.fdiv (.ofNat m) (.negSucc n)) j) (fun m => Int.fdiv (.negSucc m) j) i
theorem fdivZ_eq (i j : Int) : fdivZ i j = i.fdiv j := by
  cases i with
  | negSucc m => rfl
  | ofNat m =>
    cases j with
    | negSucc n => rfl
    | ofNat n => cases m <;> first | rfl | (show Int.ofNat (0 / n) = 0; simp)
noncomputable def fmodZ (i j : Int) : Int := @Int.rec (fun _ => Int) (fun m => @Int.rec (fun _ => Int) (fun n => .ofNat (Nat.mod m n)) (fun n => Int.fmod (.ofNat m) (.negSucc n)) j) (fun m => Int.fmod (.negSucc m) j) i
theorem fmodZ_eq (i j : Int) : fmodZ i j = i.fmod j := by
  cases i with
  | negSucc m => rfl
  | ofNat m =>
    cases j with
    | negSucc n => rfl
    | ofNat n => cases m <;> first | rfl | (show Int.ofNat (0 % n) = 0; simp)
noncomputable def mulB (i j : Int) : Bool := Nat.ble (.succ (Nat.add (Nat.log2 (absZ i)) (Nat.log2 (absZ j)))) 1000000
theorem mulB_eq (i j : Int) : mulB i j = mulFits i j := by unfold mulB mulFits; rw [ble_dec, absZ_eq, absZ_eq]; rfl
noncomputable def divB (j : Int) : Bool := @Bool.rec (fun _ => Bool) (Nat.ble (.succ (Nat.log2 (absZ j))) 9000) false (Nat.beq (absZ j) 0)
theorem divB_eq (j : Int) : divB j = divFits j := by
  unfold divB divFits
  rw [ble_dec, absZ_eq, beq_dec]
  by_cases h : j = 0
  · subst h; rfl
  · rw [decide_eq_false (show ¬ j.natAbs = 0 by omega), decide_eq_true (show j ≠ 0 from h)]; rfl
noncomputable def addK (d e : D) (τ : Tp) : Option (R × Tp) := dInt d (outR (binD .add d e) τ) fun i => dInt e none fun j => retI (addZ i j) τ
noncomputable def subK (d e : D) (τ : Tp) : Option (R × Tp) := dInt d none fun i => dInt e none fun j => retI (subZ i j) τ
noncomputable def mulK (d e : D) (τ : Tp) : Option (R × Tp) := dInt d (outR (binD .mul d e) τ) fun i => dInt e none fun j => @Bool.rec (fun _ => Option (R × Tp)) none (retI (mulZ i j) τ) (mulB i j)
noncomputable def fdivK (d e : D) (τ : Tp) : Option (R × Tp) := dInt d none fun i => dInt e none fun j => @Bool.rec (fun _ => Option (R × Tp)) none (retI (fdivZ i j) τ) (divB j)
noncomputable def modK (d e : D) (τ : Tp) : Option (R × Tp) := dInt d none fun i => dInt e none fun j => @Bool.rec (fun _ => Option (R × Tp)) (retI (fmodZ i j) τ) none (Nat.beq (absZ j) 0)
noncomputable def powK (d e : D) (τ : Tp) : Option (R × Tp) := outR (binD .pow d e) τ
noncomputable def binK (op : Bo) : D → D → Tp → Option (R × Tp) := @Bo.rec (fun _ => D → D → Tp → Option (R × Tp)) addK subK mulK fdivK modK powK op
theorem binK_eq (op : Bo) (d e : D) (τ : Tp) : binK op d e τ = (binD op d e).map fun r => (r, τ) := by
  cases op with
  | add =>
    cases d with
    | int i =>
      cases e with
      | int j =>
        show retI (addZ i j) τ = _
        rw [retI_eq, addZ_eq]; rfl
      | _ => rfl
    | _ => exact Eq.trans (by rfl) (outR_eq _ τ)
  | sub => cases d <;> first | rfl | skip
           rename_i i; cases e <;> first | rfl | skip
           rename_i j
           show retI (subZ i j) τ = _
           rw [retI_eq, subZ_eq]; rfl
  | mul =>
    cases d with
    | int i =>
      cases e with
      | int j =>
        show @Bool.rec (fun _ => Option (R × Tp)) none (retI (mulZ i j) τ) (mulB i j) = _
        simp only [binD, mulB_eq, retI_eq, mulZ_eq]
        cases mulFits i j <;> rfl
      | _ => rfl
    | _ => exact Eq.trans (by rfl) (outR_eq _ τ)
  | fdiv => cases d <;> first | rfl | skip
            rename_i i; cases e <;> first | rfl | skip
            rename_i j
            show @Bool.rec (fun _ => Option (R × Tp)) none (retI (fdivZ i j) τ) (divB j) = _
            simp only [binD, divB_eq, retI_eq, fdivZ_eq]
            cases divFits j <;> rfl
  | mod => cases d <;> first | rfl | skip
           rename_i i; cases e <;> first | rfl | skip
           rename_i j
           show @Bool.rec (fun _ => Option (R × Tp)) (retI (fmodZ i j) τ) none (Nat.beq (absZ j) 0) = _
           simp only [binD, beq_dec, absZ_eq, retI_eq, fmodZ_eq]
           by_cases h : j = 0
           · subst h; rfl
           · rw [decide_eq_false (by omega), if_pos h]; rfl
  | pow => exact outR_eq _ _
noncomputable def ltK (d e : D) (τ : Tp) : Option (R × Tp) := dInt d none fun i => dInt e none fun j => retB (ltZ i j) τ
noncomputable def leK (d e : D) (τ : Tp) : Option (R × Tp) := dInt d none fun i => dInt e none fun j => retB (leZ i j) τ
noncomputable def eqK (d e : D) (τ : Tp) : Option (R × Tp) := dInt d (outB (cmpD .eq d e) τ) fun i => dInt e (outB (cmpD .eq d e) τ) fun j => retB (eqZ i j) τ
noncomputable def neK (d e : D) (τ : Tp) : Option (R × Tp) := dInt d (outB (cmpD .ne d e) τ) fun i => dInt e (outB (cmpD .ne d e) τ) fun j => retB (not (eqZ i j)) τ
noncomputable def cmpK (op : Co) : D → D → Tp → Option (R × Tp) := @Co.rec (fun _ => D → D → Tp → Option (R × Tp)) eqK neK ltK leK (fun d e => ltK e d) (fun d e => leK e d) (fun d e τ => outB (cmpD .isin d e) τ) (fun d e τ => outB (cmpD .notin d e) τ) op
theorem cmpK_eq (op : Co) (d e : D) (τ : Tp) : cmpK op d e τ = (cmpD op d e).map fun r => (⟨.S, .bool r⟩, τ) := by
  cases op with
  | isin => exact outB_eq _ _
  | notin => exact outB_eq _ _
  | eq =>
    cases d with
    | int i =>
      cases e with
      | int j =>
        show retB (eqZ i j) τ = _
        rw [retB_eq, eqZ_eq]; rfl
      | _ => exact Eq.trans (by rfl) (outB_eq _ τ)
    | _ => exact Eq.trans (by rfl) (outB_eq _ τ)
  | ne =>
    cases d with
    | int i =>
      cases e with
      | int j =>
        show retB (not (eqZ i j)) τ = _
        rw [retB_eq, eqZ_eq]; rfl
      | _ => exact Eq.trans (by rfl) (outB_eq _ τ)
    | _ => exact Eq.trans (by rfl) (outB_eq _ τ)
  | lt => cases d <;> cases e <;> first | rfl | skip
          rename_i i j
          show retB (ltZ i j) τ = _
          rw [retB_eq, ltZ_eq]; rfl
  | le => cases d <;> cases e <;> first | rfl | skip
          rename_i i j
          show retB (leZ i j) τ = _
          rw [retB_eq, leZ_eq]; rfl
  | gt => cases d <;> cases e <;> first | rfl | skip
          rename_i i j
          show retB (ltZ j i) τ = _
          rw [retB_eq, ltZ_eq]; rfl
  | ge => cases d <;> cases e <;> first | rfl | skip
          rename_i i j
          show retB (leZ j i) τ = _
          rw [retB_eq, leZ_eq]; rfl
/-! ### expressions -/
abbrev MV := Rho → Tp → Option (R × Tp)
structure ML where
  l : Rho → Tp → Option (List R × Tp)
  a : Rho → Tp → Option (Bool × Tp)
noncomputable def varK (o : Option Sl) (τ : Tp) : Option (R × Tp) := @Option.rec Sl (fun _ => Option (R × Tp)) none (fun s => @Sl.rec (fun _ => Option (R × Tp)) none (fun d => some (⟨.S, d⟩, τ)) (fun ds => some (⟨.B, .list ds⟩, τ)) none s) o
noncomputable def kVar (i : Nat) : MV := fun ρ τ => varK (getK ρ i) τ
noncomputable def kBin (op : Bo) (a b : MV) : MV := fun ρ τ => bnd (a ρ τ) fun _ d τ => bnd (b ρ τ) fun _ e τ => binK op d e τ
noncomputable def kNeg (a : MV) : MV := fun ρ τ => bnd (a ρ τ) fun _ d τ => dInt d none fun i => retI (-i) τ
noncomputable def kCmp (op : Co) (a b : MV) : MV := fun ρ τ => bnd (a ρ τ) fun _ d τ => bnd (b ρ τ) fun _ e τ => cmpK op d e τ
noncomputable def kChn (o1 o2 : Co) (a b c : MV) : MV := fun ρ τ => bnd (a ρ τ) fun _ d τ => bnd (b ρ τ) fun _ e τ => bnd (cmpK o1 d e τ) fun _ x τ => dTest x none (bnd (c ρ τ) fun _ g τ => cmpK o2 e g τ) (some (⟨.S, .bool false⟩, τ))
noncomputable def kIsN (a : MV) : MV := fun ρ τ => bnd (a ρ τ) fun _ d τ => frcB (nonD d) fun k => some (⟨.S, .bool k⟩, τ)
noncomputable def kNotN (a : MV) : MV := fun ρ τ => bnd (a ρ τ) fun _ d τ => frcB (!nonD d) fun k => some (⟨.S, .bool k⟩, τ)
noncomputable def kIsB (a b : MV) : MV := fun ρ τ => bnd (a ρ τ) fun _ d τ => bnd (b ρ τ) fun _ e τ => match d with
  | .bool i => match e with
    | .bool j => frcB (i == j) fun k => some (⟨.S, .bool k⟩, τ)
    | _ => none
  | _ => none
noncomputable def kNotB (a b : MV) : MV := fun ρ τ => bnd (a ρ τ) fun _ d τ => bnd (b ρ τ) fun _ e τ => match d with
  | .bool i => match e with
    | .bool j => frcB (!(i == j)) fun k => some (⟨.S, .bool k⟩, τ)
    | _ => none
  | _ => none
noncomputable def kBool (o : Option (R × Tp)) : Option (R × Tp) := bnd o fun _ d τ => dBool d none fun k => some (⟨.S, .bool k⟩, τ)
noncomputable def kCon (a b : MV) : MV := fun ρ τ => bnd (a ρ τ) fun _ d τ => dTest d none (kBool (b ρ τ)) (some (⟨.S, .bool false⟩, τ))
noncomputable def kDis (a b : MV) : MV := fun ρ τ => bnd (a ρ τ) fun _ d τ => dTest d none (some (⟨.S, .bool true⟩, τ)) (kBool (b ρ τ))
noncomputable def kInv (a : MV) : MV := fun ρ τ => bnd (a ρ τ) fun _ d τ => dTest d none (some (⟨.S, .bool false⟩, τ)) (some (⟨.S, .bool true⟩, τ))
noncomputable def kIte (c a b : MV) : MV := fun ρ τ => bnd (c ρ τ) fun _ d τ => dTest d none (a ρ τ) (b ρ τ)
noncomputable def stbK : List R → Option (List D)
  | [] => some []
  | ⟨k, d⟩ :: r => match k with
    | .B => none
    | _ => match stbK r with
      | none => none
      | some l => some (d :: l)
theorem stbK_eq : ∀ rs : List R, stbK rs = rs.mapM stb
  | [] => rfl
  | ⟨k, d⟩ :: r => by
    rw [List.mapM_cons]
    cases k <;> simp [stbK, stb, stbK_eq r] <;> cases r.mapM stb <;> rfl
noncomputable def kTup (es : ML) : MV := fun ρ τ => bndP (es.l ρ τ) fun rs τ => match stbK rs with
  | none => none
  | some ds => if shortL ds then frcL ds fun ds => some (⟨.S, .tuple ds⟩, τ) else none
noncomputable def kLst (es : ML) : MV := fun ρ τ => bndP (es.l ρ τ) fun rs τ => match stbK rs with
  | none => none
  | some ds => if shortL ds then frcL ds fun ds => some (⟨.F, .list ds⟩, τ) else none
noncomputable def ixK (ds : List D) (i : Int) : Option D := match i with
  | .ofNat n => getK ds n
  | .negSucc m => if m < ds.length then getK ds (ds.length - (m + 1)) else none
theorem ixK_eq (ds : List D) (i : Int) : ixK ds i = atD ds i := by
  unfold ixK atD atI ixN
  cases i with
  | ofNat n =>
    simp only [getK_eq, Int.ofNat_eq_natCast, Int.toNat_natCast]
    rw [if_pos (by omega)]
    by_cases h : n < ds.length
    · rw [if_pos (by omega)]
      rfl
    · rw [if_neg (by omega), List.getElem?_eq_none (by omega)]
      rfl
  | negSucc m =>
    simp only [getK_eq]
    rw [if_neg (show ¬ (0 : Int) ≤ Int.negSucc m by omega)]
    by_cases h : m < ds.length
    · rw [if_pos h, if_pos (show -(ds.length : Int) ≤ Int.negSucc m by omega)]
      simp only [Option.bind_some]
      congr 1
      omega
    · rw [if_neg h, if_neg (show ¬ -(ds.length : Int) ≤ Int.negSucc m by omega)]
      rfl
noncomputable def kIdx (a b : MV) : MV := fun ρ τ => bnd (a ρ τ) fun _ d τ => bnd (b ρ τ) fun _ e τ => match e with
  | .int i => match d with
    | .tuple ds => match ixK ds i with
      | none => none
      | some d => some (⟨.S, d⟩, τ)
    | .list ds => match ixK ds i with
      | none => none
      | some d => some (⟨.S, d⟩, τ)
    | _ => none
  | _ => none
noncomputable def kSlc (a b c : MV) : MV := fun ρ τ => bnd (a ρ τ) fun _ d τ => bnd (b ρ τ) fun _ e τ => bnd (c ρ τ) fun _ g τ => match e with
  | .int i => match g with
    | .int j => outR (slcD d (some i) (some j)) τ
    | _ => none
  | _ => none
noncomputable def kSlcL (a b : MV) : MV := fun ρ τ => bnd (a ρ τ) fun _ d τ => bnd (b ρ τ) fun _ e τ => match e with
  | .int i => outR (slcD d (some i) none) τ
  | _ => none
noncomputable def kSlcH (a b : MV) : MV := fun ρ τ => bnd (a ρ τ) fun _ d τ => bnd (b ρ τ) fun _ e τ => match e with
  | .int i => outR (slcD d none (some i)) τ
  | _ => none
noncomputable def kSlcA (a : MV) : MV := fun ρ τ => bnd (a ρ τ) fun _ d τ => outR (slcD d none none) τ
noncomputable def kRev (a : MV) : MV := fun ρ τ => bnd (a ρ τ) fun _ d τ => outR (revD d) τ
noncomputable def dsK : List R → List D
  | [] => []
  | ⟨_, d⟩ :: r => d :: dsK r
theorem dsK_eq : ∀ rs : List R, dsK rs = rs.map (·.d)
  | [] => rfl
  | ⟨k, d⟩ :: r => by simp [dsK, dsK_eq r]
noncomputable def clK (o : Option R) (τ : Tp) : Option (R × Tp) := match o with
  | none => none
  | some r => if clean r then some (r, τ) else none
noncomputable def kCall (φ : List D → Option R) (es : ML) : MV := fun ρ τ => bndP (es.l ρ τ) fun rs τ => frcL (dsK rs) fun ds => clK (φ ds) τ
noncomputable def kCallT (ψ : List D → Tp → Option (R × Tp)) (i : Nat) (es : ML) : MV := fun ρ τ => match getK ρ i with
  | some s => match s with
    | .tp => bndP (es.l ρ τ) fun rs τ => match ψ (dsK rs) τ with
      | none => none
      | some r => if clean r.1 then some r else none
    | _ => none
  | none => none
noncomputable def kBlt (b : Bl) (es : ML) : MV := fun ρ τ => bndP (es.l ρ τ) fun rs τ => frcL (dsK rs) fun ds => outR (bltD b ds) τ
noncomputable def setsK {β : Type} : Rho → List Nat → List D → (Rho → Option β) → Option β
  | ρ, [], [], f => f ρ
  | ρ, i :: is, d :: ds, f => setK ρ i (.im d) fun ρ => setsK ρ is ds f
  | _, [], _ :: _, _ => none
  | _, _ :: _, [], _ => none
theorem setsK_eq {β : Type} : ∀ (is : List Nat) (ds : List D) (ρ : Rho) (f : Rho → Option β), setsK ρ is ds f = (setsD ρ is ds).bind f
  | [], [], _, _ => rfl
  | i :: is, d :: ds, ρ, f => by simp only [setsK, setK_eq, setsD, setsK_eq is ds]
  | [], _ :: _, _, _ => rfl
  | _ :: _, [], _, _ => rfl
noncomputable def tgK {β : Type} (ρ : Rho) (tg : Tg) (d : D) (f : Rho → Option β) : Option β := match tg with
  | .nm i => setK ρ i (.im d) f
  | .tu is => match d with
    | .tuple ds => setsK ρ is ds f
    | _ => none
theorem tgK_eq {β : Type} (ρ : Rho) (tg : Tg) (d : D) (f : Rho → Option β) : tgK ρ tg d f = (tgD ρ tg d).bind f := by
  cases tg with
  | nm i => simp only [tgK, setK_eq, tgD]; rfl
  | tu is => cases d <;> first | rfl | exact setsK_eq _ _ _ _
noncomputable def wipeK {β : Type} (ρ : Rho) : List Nat → (Rho → β) → β
  | [], f => f ρ
  | v :: vs, f => wipeK ρ vs fun ρ => setK ρ v .un f
theorem wipeK_eq {β : Type} (ρ : Rho) : ∀ (vs : List Nat) (f : Rho → β), wipeK ρ vs f = f (wipeR ρ vs)
  | [], _ => rfl
  | v :: vs, f => by simp only [wipeK, wipeK_eq ρ vs, setK_eq, wipeR]
noncomputable def compK (fe : MV) (fc : Rho → Tp → Option (Bool × Tp)) (ρ : Rho) (tg : Tg) : List D → Tp → Option (List D × Tp)
  | [], τ => some ([], τ)
  | d :: ds, τ => tgK ρ tg d fun ρ1 => bndP (fc ρ1 τ) fun c τ => match c with
    | true => bnd (fe ρ1 τ) fun k v τ => match k with
      | .B => none
      | _ => match compK fe fc ρ tg ds τ with
        | none => none
        | some (l, τ) => some (v :: l, τ)
    | false => compK fe fc ρ tg ds τ
theorem compK_eq (fe : MV) (fc : Rho → Tp → Option (Bool × Tp)) (ρ : Rho) (tg : Tg) : ∀ (ds : List D) (τ : Tp), compK fe fc ρ tg ds τ = compL fe fc ρ tg ds τ
  | [], _ => rfl
  | d :: ds, τ => by
    simp only [compK, compL, tgK_eq, bndP_eq, bnd_eq]
    congr 1
    funext ρ1
    congr 1
    funext c
    cases c.1 with
    | false => simp [compK_eq fe fc ρ tg ds]
    | true =>
      simp only [if_true]
      congr 1
      funext x
      obtain ⟨⟨k, v⟩, τ2⟩ := x
      cases k <;> simp [stb, compK_eq fe fc ρ tg ds] <;> cases compL fe fc ρ tg ds τ2 <;> rfl
noncomputable def kComp (elt : MV) (tg : Tg) (k : Nat) (its cond : ML) : MV := fun ρ τ => bndP (its.l ρ τ) fun rs τ => match itD k (dsK rs) with
  | none => none
  | some ds => wipeK ρ (tgVs tg) fun ρ => match compK elt cond.a ρ tg ds τ with
    | none => none
    | some (l, τ) => if shortL l then some (⟨.F, .list l⟩, τ) else none
noncomputable def kNil : ML := ⟨fun _ τ => some ([], τ), fun _ τ => some (true, τ)⟩
noncomputable def kCons (e : MV) (es : ML) : ML := ⟨fun ρ τ => match e ρ τ with
  | none => none
  | some (r, τ) => match es.l ρ τ with
    | none => none
    | some (rs, τ) => some (r :: rs, τ), fun ρ τ => bnd (e ρ τ) fun _ d τ => match d with
  | .bool k => match k with
    | true => es.a ρ τ
    | false => some (false, τ)
  | _ => none⟩
section
variable (Φ : Nat → List D → Option R) (Ψ : Nat → List D → Tp → Option (R × Tp))
noncomputable def evK : E → MV := E.rec (motive_1 := fun _ => MV) (motive_2 := fun _ => ML) (fun d _ τ => some (⟨.S, d⟩, τ)) kVar (fun op _ _ a b => kBin op a b) (fun _ a => kNeg a) (fun op _ _ a b => kCmp op a b) (fun o1 o2 _ _ _ a b c => kChn o1 o2 a b c) (fun _ a => kIsN a) (fun _ a => kNotN a) (fun _ _ a b => kIsB a b) (fun _ _ a b => kNotB a b) (fun _ _ a b => kCon a b) (fun _ _ a b => kDis a b) (fun _ a => kInv a) (fun _ _ _ c a b => kIte c a b) (fun _ es => kTup es) (fun _ es => kLst es) (fun _ _ a b => kIdx a b) (fun _ _ _ a b c => kSlc a b c) (fun _ _ a b => kSlcL a b) (fun _ _ a b => kSlcH a b) (fun _ a => kSlcA a) (fun _ a => kRev a) (fun n _ es => kCall (Φ n) es) (fun n i _ es => kCallT (Ψ n) i es) (fun b _ es => kBlt b es) (fun _ tg k _ _ e its cond => kComp e tg k its cond) kNil (fun _ _ e es => kCons e es)
noncomputable def evsK : List E → ML := E.rec_1 (motive_1 := fun _ => MV) (motive_2 := fun _ => ML) (fun d _ τ => some (⟨.S, d⟩, τ)) kVar (fun op _ _ a b => kBin op a b) (fun _ a => kNeg a) (fun op _ _ a b => kCmp op a b) (fun o1 o2 _ _ _ a b c => kChn o1 o2 a b c) (fun _ a => kIsN a) (fun _ a => kNotN a) (fun _ _ a b => kIsB a b) (fun _ _ a b => kNotB a b) (fun _ _ a b => kCon a b) (fun _ _ a b => kDis a b) (fun _ a => kInv a) (fun _ _ _ c a b => kIte c a b) (fun _ es => kTup es) (fun _ es => kLst es) (fun _ _ a b => kIdx a b) (fun _ _ _ a b c => kSlc a b c) (fun _ _ a b => kSlcL a b) (fun _ _ a b => kSlcH a b) (fun _ a => kSlcA a) (fun _ a => kRev a) (fun n _ es => kCall (Φ n) es) (fun n i _ es => kCallT (Ψ n) i es) (fun b _ es => kBlt b es) (fun _ tg k _ _ e its cond => kComp e tg k its cond) kNil (fun _ _ e es => kCons e es)
mutual
theorem evK_eq : ∀ (e : E) (ρ : Rho) (τ : Tp), evK Φ Ψ e ρ τ = ev Φ Ψ ρ τ e
  | .cst d, ρ, τ => by rw [ev]; rfl
  | .var i, ρ, τ => by
    show varK (getK ρ i) τ = _
    rw [getK_eq, ev]
    cases ρ[i]? with
    | none => rfl
    | some s => cases s <;> rfl
  | .bin op a b, ρ, τ => by
    show kBin op (evK Φ Ψ a) (evK Φ Ψ b) ρ τ = _
    simp only [kBin, bnd_eq, binK_eq, evK_eq a, evK_eq b, ev]
  | .neg a, ρ, τ => by
    show kNeg (evK Φ Ψ a) ρ τ = _
    simp only [kNeg, bnd_eq, retI_eq, evK_eq a, ev]
    congr 1; funext x
    cases x.1.d <;> rfl
  | .cmp op a b, ρ, τ => by
    show kCmp op (evK Φ Ψ a) (evK Φ Ψ b) ρ τ = _
    simp only [kCmp, bnd_eq, cmpK_eq, evK_eq a, evK_eq b, ev]
  | .chn o1 o2 a b c, ρ, τ => by
    show kChn o1 o2 (evK Φ Ψ a) (evK Φ Ψ b) (evK Φ Ψ c) ρ τ = _
    simp only [kChn, bnd_eq, cmpK_eq, evK_eq a, evK_eq b, evK_eq c, ev]
    congr 1; funext x; congr 1; funext y
    cases cmpD o1 x.1.d y.1.d with
    | none => rfl
    | some k => cases k <;> rfl
  | .isN a, ρ, τ => by
    show kIsN (evK Φ Ψ a) ρ τ = _
    simp only [kIsN, bnd_eq, frcB_eq, evK_eq a, ev]
    cases ev Φ Ψ ρ τ a <;> rfl
  | .notN a, ρ, τ => by
    show kNotN (evK Φ Ψ a) ρ τ = _
    simp only [kNotN, bnd_eq, frcB_eq, evK_eq a, ev]
    cases ev Φ Ψ ρ τ a <;> rfl
  | .isB a b, ρ, τ => by
    show kIsB (evK Φ Ψ a) (evK Φ Ψ b) ρ τ = _
    simp only [kIsB, bnd_eq, frcB_eq, evK_eq a, evK_eq b, ev]
    congr 1; funext x; congr 1; funext y
    cases x.1.d <;> cases y.1.d <;> rfl
  | .notB a b, ρ, τ => by
    show kNotB (evK Φ Ψ a) (evK Φ Ψ b) ρ τ = _
    simp only [kNotB, bnd_eq, frcB_eq, evK_eq a, evK_eq b, ev]
    congr 1; funext x; congr 1; funext y
    cases x.1.d <;> cases y.1.d <;> rfl
  | .con a b, ρ, τ => by
    show kCon (evK Φ Ψ a) (evK Φ Ψ b) ρ τ = _
    simp only [kCon, kBool, bnd_eq, evK_eq a, evK_eq b, ev]
    congr 1; funext x
    cases x.1.d <;> first | rfl | skip
    rename_i k
    cases k with
    | false => rfl
    | true =>
      show (ev Φ Ψ ρ x.2 b).bind _ = (ev Φ Ψ ρ x.2 b).bind _
      congr 1; funext y
      cases y.1.d <;> rfl
  | .dis a b, ρ, τ => by
    show kDis (evK Φ Ψ a) (evK Φ Ψ b) ρ τ = _
    simp only [kDis, kBool, bnd_eq, evK_eq a, evK_eq b, ev]
    congr 1; funext x
    cases x.1.d <;> first | rfl | skip
    rename_i k
    cases k with
    | true => rfl
    | false =>
      show (ev Φ Ψ ρ x.2 b).bind _ = (ev Φ Ψ ρ x.2 b).bind _
      congr 1; funext y
      cases y.1.d <;> rfl
  | .inv a, ρ, τ => by
    show kInv (evK Φ Ψ a) ρ τ = _
    simp only [kInv, bnd_eq, evK_eq a, ev]
    congr 1; funext x
    cases x.1.d <;> first | rfl | skip
    rename_i k
    cases k <;> rfl
  | .ite c a b, ρ, τ => by
    show kIte (evK Φ Ψ c) (evK Φ Ψ a) (evK Φ Ψ b) ρ τ = _
    simp only [kIte, bnd_eq, evK_eq a, evK_eq b, evK_eq c, ev]
    congr 1; funext x
    cases x.1.d <;> first | rfl | skip
    rename_i k
    cases k <;> rfl
  | .tup es, ρ, τ => by
    show kTup (evsK Φ Ψ es) ρ τ = _
    simp only [kTup, bndP_eq, frcL_eq, stbK_eq, evsK_l es, ev]
    congr 1; funext x
    cases x.1.mapM stb <;> rfl
  | .lst es, ρ, τ => by
    show kLst (evsK Φ Ψ es) ρ τ = _
    simp only [kLst, bndP_eq, frcL_eq, stbK_eq, evsK_l es, ev]
    congr 1; funext x
    cases x.1.mapM stb <;> rfl
  | .idx a b, ρ, τ => by
    show kIdx (evK Φ Ψ a) (evK Φ Ψ b) ρ τ = _
    simp only [kIdx, bnd_eq, ixK_eq, evK_eq a, evK_eq b, ev]
    congr 1; funext x; congr 1; funext y
    generalize x.1.d = d
    generalize y.1.d = e
    cases e <;> cases d <;> first | rfl | (rename_i i ds; simp only [idxD]; cases atD ds i <;> rfl)
  | .slc a b c, ρ, τ => by
    show kSlc (evK Φ Ψ a) (evK Φ Ψ b) (evK Φ Ψ c) ρ τ = _
    simp only [kSlc, bnd_eq, outR_eq, evK_eq a, evK_eq b, evK_eq c, ev]
    congr 1; funext x; congr 1; funext y; congr 1; funext z
    cases y.1.d <;> cases z.1.d <;> rfl
  | .slcL a b, ρ, τ => by
    show kSlcL (evK Φ Ψ a) (evK Φ Ψ b) ρ τ = _
    simp only [kSlcL, bnd_eq, outR_eq, evK_eq a, evK_eq b, ev]
    congr 1; funext x; congr 1; funext y
    cases y.1.d <;> rfl
  | .slcH a b, ρ, τ => by
    show kSlcH (evK Φ Ψ a) (evK Φ Ψ b) ρ τ = _
    simp only [kSlcH, bnd_eq, outR_eq, evK_eq a, evK_eq b, ev]
    congr 1; funext x; congr 1; funext y
    cases y.1.d <;> rfl
  | .slcA a, ρ, τ => by
    show kSlcA (evK Φ Ψ a) ρ τ = _
    simp only [kSlcA, bnd_eq, outR_eq, evK_eq a, ev]
  | .rev a, ρ, τ => by
    show kRev (evK Φ Ψ a) ρ τ = _
    simp only [kRev, bnd_eq, outR_eq, evK_eq a, ev]
  | .call n es, ρ, τ => by
    show kCall (Φ n) (evsK Φ Ψ es) ρ τ = _
    simp only [kCall, bndP_eq, frcL_eq, dsK_eq, evsK_l es, ev]
    congr 1; funext x
    cases Φ n (x.1.map (·.d)) <;> rfl
  | .callT n i es, ρ, τ => by
    show kCallT (Ψ n) i (evsK Φ Ψ es) ρ τ = _
    simp only [kCallT, bndP_eq, frcL_eq, dsK_eq, evsK_l es, ev, getK_eq]
    cases ρ[i]? with
    | none => rfl
    | some s =>
      cases s <;> first | rfl | skip
      dsimp only
      congr 1; funext x
      cases Ψ n (x.1.map (·.d)) x.2 <;> rfl
  | .blt b es, ρ, τ => by
    show kBlt b (evsK Φ Ψ es) ρ τ = _
    simp only [kBlt, bndP_eq, frcL_eq, dsK_eq, outR_eq, evsK_l es, ev]
  | .comp elt tg k its cond, ρ, τ => by
    show kComp (evK Φ Ψ elt) tg k (evsK Φ Ψ its) (evsK Φ Ψ cond) ρ τ = _
    have h1 : evK Φ Ψ elt = fun ρ τ => ev Φ Ψ ρ τ elt := by funext ρ τ; exact evK_eq elt ρ τ
    have h2 : (evsK Φ Ψ cond).a = fun ρ τ => evAll Φ Ψ ρ τ cond := by funext ρ τ; exact evsK_a cond ρ τ
    simp only [kComp, bndP_eq, dsK_eq, wipeK_eq, compK_eq, evsK_l its, h1, h2, ev]
    congr 1; funext x
    cases itD k (x.1.map (·.d)) with
    | none => rfl
    | some ds =>
      simp only [Option.bind_some]
      cases compL (fun ρ τ => ev Φ Ψ ρ τ elt) (fun ρ τ => evAll Φ Ψ ρ τ cond) (wipeR ρ (tgVs tg)) tg ds x.2 <;> rfl
theorem evsK_l : ∀ (es : List E) (ρ : Rho) (τ : Tp), (evsK Φ Ψ es).l ρ τ = evs Φ Ψ ρ τ es
  | [], ρ, τ => by rw [evs]; rfl
  | e :: es, ρ, τ => by
    show (kCons (evK Φ Ψ e) (evsK Φ Ψ es)).l ρ τ = _
    simp only [kCons, evK_eq e, evs]
    cases ev Φ Ψ ρ τ e with
    | none => rfl
    | some x =>
      simp only [Option.bind_some, evsK_l es]
      cases evs Φ Ψ ρ x.2 es <;> rfl
theorem evsK_a : ∀ (es : List E) (ρ : Rho) (τ : Tp), (evsK Φ Ψ es).a ρ τ = evAll Φ Ψ ρ τ es
  | [], ρ, τ => by rw [evAll]; rfl
  | e :: es, ρ, τ => by
    show (kCons (evK Φ Ψ e) (evsK Φ Ψ es)).a ρ τ = _
    simp only [kCons, bnd_eq, evK_eq e, evsK_a es, evAll]
    congr 1; funext x
    cases x.1.d <;> first | rfl | skip
    rename_i k
    cases k <;> rfl
end
end
end Ev

/-! ## EvL -/
namespace Ev
open PySem PySem.Spec PyProof.Rows L2

abbrev MS := Rho → Tp → Option Out
noncomputable def putF (ρ : Rho) (i : Nat) (d : D) (f : Rho → Option Out) : Option Out := match d with
  | .list ds => setK ρ i (.ow ds) f
  | _ => none
noncomputable def putK (ρ : Rho) (i : Nat) (k : Kd) (d : D) (f : Rho → Option Out) : Option Out := @Kd.rec (fun _ => Option Out) none (setK ρ i (.im d) f) (putF ρ i d f) k
theorem putK_eq (ρ : Rho) (i : Nat) (k : Kd) (d : D) (f : Rho → Option Out) : putK ρ i k d f = (putR ρ i ⟨k, d⟩).bind f := by
  cases k <;> cases d <;> simp [putK, putF, putR, setK_eq]
noncomputable def ptuK (ρ : Rho) (is : List Nat) (d : D) (f : Rho → Option Out) : Option Out := match d with
  | .tuple ds => setsK ρ is ds f
  | _ => none
noncomputable def ptgK (ρ : Rho) (tg : Tg) (k : Kd) (d : D) (f : Rho → Option Out) : Option Out := @Tg.rec (fun _ => Option Out) (fun i => putK ρ i k d f) (fun is => ptuK ρ is d f) tg
theorem ptgK_eq (ρ : Rho) (tg : Tg) (k : Kd) (d : D) (f : Rho → Option Out) : ptgK ρ tg k d f = (putTg ρ tg ⟨k, d⟩).bind f := by
  cases tg with
  | nm i => exact putK_eq ρ i k d f
  | tu is => cases d <;> first | rfl | exact setsK_eq _ _ _ f
noncomputable def sSet (tg : Tg) (e : MV) : MS := fun ρ τ => bnd (e ρ τ) fun k d τ => ptgK ρ tg k d fun ρ => some (.nx ρ τ)
noncomputable def nB {β : Type} (k : Kd) (o : Option β) : Option β := @Kd.rec (fun _ => Option β) none o o k
theorem nB_eq {β : Type} (k : Kd) (d : D) (f : D → Option β) : nB k (f d) = (stb ⟨k, d⟩).bind f := by cases k <;> rfl
noncomputable def sPar2 (i j : Nat) (a b : MV) : MS := fun ρ τ => bnd (a ρ τ) fun k d τ => bnd (b ρ τ) fun l e τ => nB k (nB l (setK ρ i (.im d) fun ρ => setK ρ j (.im e) fun ρ => some (.nx ρ τ)))
noncomputable def sPar3 (i j m : Nat) (a b c : MV) : MS := fun ρ τ => bnd (a ρ τ) fun k d τ => bnd (b ρ τ) fun l e τ => bnd (c ρ τ) fun n g τ => nB k (nB l (nB n (setK ρ i (.im d) fun ρ => setK ρ j (.im e) fun ρ => setK ρ m (.im g) fun ρ => some (.nx ρ τ))))
noncomputable def sAug (i : Nat) (op : Bo) (e : MV) : MS := fun ρ τ => match getK ρ i with
  | none => none
  | some s => match s with
    | .im d => bnd (e ρ τ) fun _ g τ => match augD op d g with
      | none => none
      | some r => frcD r fun r => setK ρ i (.im r) fun ρ => some (.nx ρ τ)
    | _ => none
noncomputable def sApp (i : Nat) (e : MV) : MS := fun ρ τ => match getK ρ i with
  | none => none
  | some s => match s with
    | .ow ds => bnd (e ρ τ) fun k d τ => nB k (if shortL ds then frcL (ds ++ [d]) fun es => setK ρ i (.ow es) fun ρ => some (.nx ρ τ) else none)
    | _ => none
noncomputable def sExt (i : Nat) (e : MV) : MS := fun ρ τ => match getK ρ i with
  | none => none
  | some s => match s with
    | .ow ds => bnd (e ρ τ) fun _ d τ => match d with
      | .list es => if shortL (ds ++ es) then frcL (ds ++ es) fun es => setK ρ i (.ow es) fun ρ => some (.nx ρ τ) else none
      | _ => none
    | _ => none
noncomputable def sPopK (i : Nat) : MS := fun ρ τ => match getK ρ i with
  | none => none
  | some s => match s with
    | .ow ds => if ds.isEmpty then none else frcL ds.dropLast fun es => setK ρ i (.ow es) fun ρ => some (.nx ρ τ)
    | _ => none
noncomputable def sSti (i : Nat) (ix e : MV) : MS := fun ρ τ => bnd (e ρ τ) fun k d τ => nB k (match getK ρ i with
  | none => none
  | some s => match s with
    | .ow ds => bnd (ix ρ τ) fun _ x τ => match x with
      | .int m => match ixN ds.length m with
        | none => none
        | some j => setK ds j d fun es => setK ρ i (.ow es) fun ρ => some (.nx ρ τ)
      | _ => none
    | _ => none)
noncomputable def sRet (e : MV) : MS := fun ρ τ => bnd (e ρ τ) fun k d τ => nB k (some (.rt ⟨k, d⟩ τ))
noncomputable def sRetv (i : Nat) : MS := fun ρ τ => match getK ρ i with
  | none => none
  | some s => match s with
    | .im d => some (.rt ⟨.S, d⟩ τ)
    | .ow ds => some (.rt ⟨.F, .list ds⟩ τ)
    | _ => none
noncomputable def sIte (c : MV) (a b : MS) : MS := fun ρ τ => bnd (c ρ τ) fun _ d τ => dTest d none (a ρ τ) (b ρ τ)
noncomputable def lpK (o : Option Out) (f : MS) : Option Out := @Option.rec Out (fun _ => Option Out) none (fun x => @Out.rec (fun _ => Option Out) f (fun ρ τ => some (.nx ρ τ)) f (fun r τ => some (.rt r τ)) x) o
noncomputable def whK (c : MV) (f : MS) (n : Nat) : MS := @Nat.rec (fun _ => MS) (fun _ _ => none) (fun _ ih ρ τ => bnd (c ρ τ) fun _ d τ => dTest d none (lpK (f ρ τ) ih) (some (.nx ρ τ))) n
theorem whK_eq (c : MV) (f : MS) : ∀ (n : Nat) (ρ : Rho) (τ : Tp), whK c f n ρ τ = whL c f n ρ τ
  | 0, _, _ => rfl
  | n + 1, ρ, τ => by
    show bnd (c ρ τ) (fun _ d τ => dTest d none (lpK (f ρ τ) (whK c f n)) (some (.nx ρ τ))) = _
    simp only [whL, bnd_eq]
    congr 1; funext x
    cases x.1.d <;> first | rfl | skip
    rename_i k
    cases k with
    | false => rfl
    | true =>
      show lpK (f ρ x.2) (whK c f n) = (f ρ x.2).bind _
      cases f ρ x.2 with
      | none => rfl
      | some o => cases o <;> first | rfl | exact whK_eq c f n _ _
noncomputable def forK (f : MS) (tg : Tg) (ds : List D) : MS := @List.rec D (fun _ => MS) (fun ρ τ => some (.nx ρ τ)) (fun d _ ih ρ τ => tgK ρ tg d fun ρ => lpK (f ρ τ) ih) ds
theorem forK_eq (f : MS) (tg : Tg) : ∀ (ds : List D) (ρ : Rho) (τ : Tp), forK f tg ds ρ τ = forL f tg ds ρ τ
  | [], _, _ => rfl
  | d :: ds, ρ, τ => by
    show tgK ρ tg d (fun ρ => lpK (f ρ τ) (forK f tg ds)) = _
    simp only [forL, tgK_eq]
    congr 1; funext ρ1
    cases f ρ1 τ with
    | none => rfl
    | some o => cases o <;> first | rfl | exact forK_eq f tg ds _ _
noncomputable def borK : List R → Bool
  | [] => false
  | ⟨k, _⟩ :: r => match k with
    | .B => true
    | _ => borK r
theorem borK_eq : ∀ rs : List R, borK rs = rs.any (fun r => r.k == .B)
  | [] => rfl
  | ⟨k, _⟩ :: r => by cases k <;> simp [borK, borK_eq r] <;> decide
noncomputable def sFor (tg : Tg) (k : Nat) (its : ML) (b : MS) : MS := fun ρ τ => bndP (its.l ρ τ) fun rs τ => match itD k (dsK rs) with
  | none => none
  | some ds => match borK rs with
    | true => none
    | false => forK b tg ds ρ τ
noncomputable def sForv (tg : Tg) (i : Nat) (b : MS) : MS := fun ρ τ => match getK ρ i with
  | none => none
  | some s => match s with
    | .ow ds => setK ρ i (.im (.list ds)) fun ρ => forK b tg ds ρ τ
    | .im d => match itD 0 [d] with
      | none => none
      | some ds => forK b tg ds ρ τ
    | _ => none
noncomputable def sExp (e : MV) : MS := fun ρ τ => bnd (e ρ τ) fun _ _ τ => some (.nx ρ τ)
noncomputable def sqO (o : Option Out) (t : MS) : Option Out := @Option.rec Out (fun _ => Option Out) none (fun x => @Out.rec (fun _ => Option Out) t (fun ρ τ => some (.bk ρ τ)) (fun ρ τ => some (.ct ρ τ)) (fun r τ => some (.rt r τ)) x) o
noncomputable def sqK (s t : MS) : MS := fun ρ τ => sqO (s ρ τ) t
section
variable (Φ : Nat → List D → Option R) (Ψ : Nat → List D → Tp → Option (R × Tp)) (N : Nat)
noncomputable def evSK : S → MS := S.rec (motive_1 := fun _ => MS) (motive_2 := fun _ => MS) (fun tg e => sSet tg (evK Φ Ψ e)) (fun i j a b => sPar2 i j (evK Φ Ψ a) (evK Φ Ψ b)) (fun i j l a b c => sPar3 i j l (evK Φ Ψ a) (evK Φ Ψ b) (evK Φ Ψ c)) (fun i op e => sAug i op (evK Φ Ψ e)) (fun i e => sApp i (evK Φ Ψ e)) (fun i e => sExt i (evK Φ Ψ e)) (fun i => sPopK i) (fun i ix e => sSti i (evK Φ Ψ ix) (evK Φ Ψ e)) (fun e => sRet (evK Φ Ψ e)) (fun i => sRetv i) (fun _ τ => some (.rt ⟨.S, .none⟩ τ)) (fun c _ _ a b => sIte (evK Φ Ψ c) a b) (fun c _ b => whK (evK Φ Ψ c) b N) (fun tg k its _ b => sFor tg k (evsK Φ Ψ its) b) (fun tg i _ b => sForv tg i b) (fun ρ τ => some (.bk ρ τ)) (fun ρ τ => some (.ct ρ τ)) (fun ρ τ => some (.nx ρ τ)) (fun e => sExp (evK Φ Ψ e)) (fun _ _ => none) (fun ρ τ => some (.nx ρ τ)) (fun _ _ s ss => sqK s ss)
noncomputable def evSsK : List S → MS := S.rec_1 (motive_1 := fun _ => MS) (motive_2 := fun _ => MS) (fun tg e => sSet tg (evK Φ Ψ e)) (fun i j a b => sPar2 i j (evK Φ Ψ a) (evK Φ Ψ b)) (fun i j l a b c => sPar3 i j l (evK Φ Ψ a) (evK Φ Ψ b) (evK Φ Ψ c)) (fun i op e => sAug i op (evK Φ Ψ e)) (fun i e => sApp i (evK Φ Ψ e)) (fun i e => sExt i (evK Φ Ψ e)) (fun i => sPopK i) (fun i ix e => sSti i (evK Φ Ψ ix) (evK Φ Ψ e)) (fun e => sRet (evK Φ Ψ e)) (fun i => sRetv i) (fun _ τ => some (.rt ⟨.S, .none⟩ τ)) (fun c _ _ a b => sIte (evK Φ Ψ c) a b) (fun c _ b => whK (evK Φ Ψ c) b N) (fun tg k its _ b => sFor tg k (evsK Φ Ψ its) b) (fun tg i _ b => sForv tg i b) (fun ρ τ => some (.bk ρ τ)) (fun ρ τ => some (.ct ρ τ)) (fun ρ τ => some (.nx ρ τ)) (fun e => sExp (evK Φ Ψ e)) (fun _ _ => none) (fun ρ τ => some (.nx ρ τ)) (fun _ _ s ss => sqK s ss)
theorem evK_fn (e : E) : evK Φ Ψ e = fun ρ τ => ev Φ Ψ ρ τ e := by funext ρ τ; exact evK_eq Φ Ψ e ρ τ
theorem evsK_fn (e : List E) : (evsK Φ Ψ e).l = fun ρ τ => evs Φ Ψ ρ τ e := by funext ρ τ; exact evsK_l Φ Ψ e ρ τ
mutual
theorem evSK_eq : ∀ (s : S) (ρ : Rho) (τ : Tp), evSK Φ Ψ N s ρ τ = evS Φ Ψ N ρ τ s
  | .set tg e, ρ, τ => by
    show sSet tg (evK Φ Ψ e) ρ τ = _
    simp only [sSet, bnd_eq, ptgK_eq, evK_fn, evS]
    congr 1; funext x
    cases putTg ρ tg ⟨x.1.k, x.1.d⟩ <;> rfl
  | .par2 i j a b, ρ, τ => by
    show sPar2 i j (evK Φ Ψ a) (evK Φ Ψ b) ρ τ = _
    simp only [sPar2, bnd_eq, setK_eq, evK_fn, evS]
    congr 1; funext x; congr 1; funext y
    obtain ⟨⟨k, d⟩, τ1⟩ := x
    obtain ⟨⟨l, e⟩, τ2⟩ := y
    cases k <;> cases l <;> rfl
  | .par3 i j m a b c, ρ, τ => by
    show sPar3 i j m (evK Φ Ψ a) (evK Φ Ψ b) (evK Φ Ψ c) ρ τ = _
    simp only [sPar3, bnd_eq, setK_eq, evK_fn, evS]
    congr 1; funext x; congr 1; funext y; congr 1; funext z
    obtain ⟨⟨k, d⟩, τ1⟩ := x
    obtain ⟨⟨l, e⟩, τ2⟩ := y
    obtain ⟨⟨n, g⟩, τ3⟩ := z
    cases k <;> cases l <;> cases n <;> rfl
  | .aug i op e, ρ, τ => by
    show sAug i op (evK Φ Ψ e) ρ τ = _
    simp only [sAug, bnd_eq, getK_eq, setK_eq, frcD_eq, evK_fn, evS]
    cases ρ[i]? with
    | none => rfl
    | some s =>
      cases s <;> first | rfl | skip
      dsimp only
      congr 1; funext x
      rename_i d
      cases augD op d x.1.d <;> rfl
  | .app i e, ρ, τ => by
    show sApp i (evK Φ Ψ e) ρ τ = _
    simp only [sApp, bnd_eq, getK_eq, setK_eq, frcL_eq, evK_fn, evS]
    cases ρ[i]? with
    | none => rfl
    | some s =>
      cases s <;> first | rfl | skip
      dsimp only
      congr 1; funext x
      obtain ⟨⟨k, d⟩, τ1⟩ := x
      cases k <;> rfl
  | .ext i e, ρ, τ => by
    show sExt i (evK Φ Ψ e) ρ τ = _
    simp only [sExt, bnd_eq, getK_eq, setK_eq, frcL_eq, evK_fn, evS]
    cases ρ[i]? with
    | none => rfl
    | some s =>
      cases s <;> first | rfl | skip
  | .pop i, ρ, τ => by
    show sPopK i ρ τ = _
    simp only [sPopK, getK_eq, setK_eq, frcL_eq, evS]
    cases ρ[i]? with
    | none => rfl
    | some s => cases s <;> rfl
  | .sti i ix e, ρ, τ => by
    show sSti i (evK Φ Ψ ix) (evK Φ Ψ e) ρ τ = _
    simp only [sSti, bnd_eq, getK_eq, setK_eq, evK_fn, evS]
    congr 1; funext x
    obtain ⟨⟨k, d⟩, τ1⟩ := x
    have h : ∀ o : Option Out, (match k with | .B => none | _ => o) = (stb ⟨k, d⟩).bind fun _ => o := by intro o; cases k <;> rfl
    cases k <;> first | rfl | skip
    all_goals
      cases ρ[i]? with
      | none => rfl
      | some s =>
        cases s <;> first | rfl | skip
        simp only [nB, stb, Option.bind_some]
        congr 1; funext y
        cases y.1.d <;> first | rfl | skip
        rename_i ds m
        simp only [intOf, Option.bind_some]
        cases ixN ds.length m <;> rfl
  | .ret e, ρ, τ => by
    show sRet (evK Φ Ψ e) ρ τ = _
    simp only [sRet, bnd_eq, evK_fn, evS]
    congr 1; funext x
    obtain ⟨⟨k, d⟩, τ1⟩ := x
    cases k <;> rfl
  | .retv i, ρ, τ => by
    show sRetv i ρ τ = _
    simp only [sRetv, getK_eq, evS]
    cases ρ[i]? with
    | none => rfl
    | some s => cases s <;> rfl
  | .retn, ρ, τ => by rw [evS]; rfl
  | .ite c a b, ρ, τ => by
    show sIte (evK Φ Ψ c) (evSsK Φ Ψ N a) (evSsK Φ Ψ N b) ρ τ = _
    simp only [sIte, bnd_eq, evK_fn, evSsK_eq a, evSsK_eq b, evS]
    congr 1; funext x
    cases x.1.d <;> first | rfl | skip
    rename_i k
    cases k <;> rfl
  | .whl c b, ρ, τ => by
    show whK (evK Φ Ψ c) (evSsK Φ Ψ N b) N ρ τ = _
    have h : evSsK Φ Ψ N b = fun ρ τ => evSs Φ Ψ N ρ τ b := by funext ρ τ; exact evSsK_eq b ρ τ
    rw [whK_eq, evK_fn, h, evS]
  | .for_ tg k its b, ρ, τ => by
    show sFor tg k (evsK Φ Ψ its) (evSsK Φ Ψ N b) ρ τ = _
    have h : evSsK Φ Ψ N b = fun ρ τ => evSs Φ Ψ N ρ τ b := by funext ρ τ; exact evSsK_eq b ρ τ
    simp only [sFor, bndP_eq, dsK_eq, evsK_fn, forK_eq, borK_eq, h, evS]
    congr 1; funext x
    cases itD k (x.1.map (·.d)) with
    | none => rfl
    | some ds =>
      simp only [Option.bind_some]
      cases x.1.any (fun r => r.k == .B) <;> rfl
  | .forv tg i b, ρ, τ => by
    show sForv tg i (evSsK Φ Ψ N b) ρ τ = _
    have h : evSsK Φ Ψ N b = fun ρ τ => evSs Φ Ψ N ρ τ b := by funext ρ τ; exact evSsK_eq b ρ τ
    simp only [sForv, getK_eq, setK_eq, forK_eq, h, evS]
    cases ρ[i]? with
    | none => rfl
    | some s =>
      cases s <;> first | rfl | skip
      rename_i d
      dsimp only
      cases itD 0 [d] <;> rfl
  | .brk, ρ, τ => by rw [evS]; rfl
  | .cnt, ρ, τ => by rw [evS]; rfl
  | .pas, ρ, τ => by rw [evS]; rfl
  | .exp e, ρ, τ => by
    show sExp (evK Φ Ψ e) ρ τ = _
    simp only [sExp, bnd_eq, evK_fn, evS]
    cases ev Φ Ψ ρ τ e <;> rfl
  | .nev, ρ, τ => by rw [evS]; rfl
theorem evSsK_eq : ∀ (s : List S) (ρ : Rho) (τ : Tp), evSsK Φ Ψ N s ρ τ = evSs Φ Ψ N ρ τ s
  | [], ρ, τ => by rw [evSs]; rfl
  | s :: ss, ρ, τ => by
    show sqK (evSK Φ Ψ N s) (evSsK Φ Ψ N ss) ρ τ = _
    simp only [sqK, sqO, evSK_eq s, evSs]
    cases evS Φ Ψ N ρ τ s with
    | none => rfl
    | some o => cases o <;> first | rfl | exact evSsK_eq ss _ _
end
end
end Ev

/-! ## Ev14 -/
namespace Ev
open PySem PySem.Spec PyProof.Rows L2

/-! ### the law's begin -/
abbrev rInt1 : List V → Hp → VK → Prop := fun xs H Q => (∃ i, xs = [.int i] ∧ Q (.int i) H) ∨ ∃ k, xs = [.bl k] ∧ Q (.int (if k then 1 else 0)) H
abbrev rModN : R2 := rI (fun _ j => j ≠ 0) fun i j => .int (i.fmod j)
def tBegin (K : PySem.W.Frag) : TS :=
  tSeq (tAsg (tC (.int 1)) (gName 1))
  (tSeq (tFor (iList K (tVar 0)) (gName 2) (tAsg (tOp rModN (tOp (rI0 fun i j => .int (i + j)) (tOp (rI0 fun i j => .int (i + j)) (tOp (rI CMul fun i j => .int (i * j)) (tVar 1) (tC (.int 69621))) (tOp rModN (tCB rInt1 (tCons (tVar 2) tNil)) (tC (.int 2147483629)))) (tC (.int 7))) (tC (.int 2147483647))) (gName 1)))
  (tRet (tLst (tCons (tCB (fun xs H Q => ∃ p ys, xs = [.ref p] ∧ (SqL K H p ys ∨ SqT K H p ys) ∧ ∀ l, H l = none → Q (.ref l) (upd H l (.lst ys))) (tCons (tVar 0) tNil)) (tCons (tC (.int 0)) (tCons (tC (.int 0)) (tCons (tVar 1) tNil)))))))
def spBegin (K : PySem.W.Frag) : Sp := fun vs H Q _ => ∃ (a : Addr) (ns : List Int), vs = [.ref a] ∧ SqL K H a (ns.map V.int) ∧ ns.length ≤ 63 ∧
  ∀ H' p b seed, Same H H' → p ≠ b → H' b = some (.lst (ns.map V.int)) → H' p = some (.lst [.ref b, .int 0, .int 0, .int seed]) → Q (.ref p) H'
theorem begin_run {K : PySem.W.Frag} {vs : List V} {H : Hp} {Q : VK} {E : XK} {D : Ends} (hD : D.rt = Q) (h : spBegin K vs H Q E) : tBegin K D (L2.start ["script", "seed", "cell"] vs) H := by
  obtain ⟨a, ns, rfl, hS, hl, hQ⟩ := h
  subst hD
  refine ⟨.ref a, rfl, a, rfl, ⟨_, hS⟩, ?_⟩
  refine for_list (xs := ns.map V.int) (fun i σ H' => H' = H ∧ ∃ (sd : Int) (c : Option V), σ = [some (.ref a), some (.int sd), c]) ⟨rfl, 1, none, rfl⟩ (fun i σ H' _ h => by obtain ⟨rfl, _⟩ := h; exact hS) (fun i x σ H' hx h => ?_) (fun σ H' h => ?_)
  · obtain ⟨rfl, sd, c, rfl⟩ := h
    rw [List.getElem?_map] at hx
    obtain ⟨n, _, rfl⟩ := Option.map_eq_some_iff.mp hx
    exact ⟨_, rfl, _, _, rfl, rfl, .inr ⟨by decide, by decide⟩, _, rfl, .inl ⟨n, rfl, _, _, rfl, rfl, (by show (2147483629 : Int) ≠ 0; decide), _, _, rfl, rfl, _, _, rfl, rfl, _, _, rfl, rfl, (by show (2147483647 : Int) ≠ 0; decide), rfl, _, _, rfl⟩⟩
  · obtain ⟨rfl, sd, c, rfl⟩ := h
    refine ⟨_, rfl, a, _, rfl, .inl hS, fun b nb => ⟨_, rfl, ?_⟩⟩
    refine ⟨Nat.le_trans (show 4 ≤ 63 by decide) (Nat.le_of_lt (small1000 (by decide))), fun p np => ?_⟩
    have nbp : b ≠ p := fun z => by rw [← z, upd_same] at np; cases np
    refine hQ _ p b sd ?_ nbp.symm ?_ upd_same
    · exact (same_upd nb).trans (same_upd np)
    · rw [upd_ne nbp]; exact upd_same

/-! ### the table of defs -/
def Φof (φs : List (List D → Option R)) (n : Nat) : List D → Option R := match φs[n]? with
  | some φ => φ
  | none => fun _ => none
def Ψof (ψs : List (List D → Tp → Option (R × Tp))) (n : Nat) : List D → Tp → Option (R × Tp) := match ψs[n]? with
  | some ψ => ψ
  | none => fun _ _ => none
/-- a def by running its code -/
noncomputable def runF (Φ : Nat → List D → Option R) (M N n : Nat) (code : List S) : List D → Option R := fun ds =>
  if ds.length = n then (evSsK Φ (Ψof []) M code (start0 N ds) τ0).bind retOf else none
section
variable {P : Program} {w : World} {K : PySem.W.Frag} {mg : Str → Option Value} {base : Heap} {k : Nat}
def FOk (P : Program) (w : World) (K : PySem.W.Frag) (mg : Str → Option Value) (base : Heap) (k : Nat) (x : Str) (φ : List D → Option R) : Prop := ∃ f fd ps, FnOk P w K mg base CX0 k f fd ps (spP K φ) ∧ mg x = some (.ref f) ∧ PySem.W.keepIn K (.ref f) = true ∧ Binds K fd ps []
def TOk (P : Program) (w : World) (K : PySem.W.Frag) (mg : Str → Option Value) (base : Heap) (k : Nat) (x : Str) (ψ : List D → Tp → Option (R × Tp)) : Prop := (∀ ds τ r τ', ψ ds τ = some (r, τ') → τ'.cells = τ.cells) ∧ ∃ f fd ps, FnOk P w K mg base CX0 k f fd ps (spT K ψ) ∧ mg x = some (.ref f) ∧ PySem.W.keepIn K (.ref f) = true ∧ Binds K fd ps []
theorem FOk.mono {j : Nat} {x : Str} {φ : List D → Option R} (h : FOk P w K mg base j x φ) (hj : j ≤ k) : FOk P w K mg base k x φ := let ⟨f, fd, ps, F, r⟩ := h; ⟨f, fd, ps, F.mono hj, r⟩
theorem TOk.mono {j : Nat} {x : Str} {φ : List D → Tp → Option (R × Tp)} (h : TOk P w K mg base j x φ) (hj : j ≤ k) : TOk P w K mg base k x φ := let ⟨c, f, fd, ps, F, r⟩ := h; ⟨c, f, fd, ps, F.mono hj, r⟩
theorem fns_nil : Paired (FOk P w K mg base k) [] [] := .nil
theorem fns_get {xs : List Str} {φs : List (List D → Option R)} (h : Paired (FOk P w K mg base k) xs φs) (n : Nat) (x : Str) (e : xs[n]? = some x) : FOk P w K mg base k x (Φof φs n) := by
  induction h generalizing n with
  | nil => simp at e
  | cons r t ih =>
    cases n with
    | zero => simp at e; subst e; exact r
    | succ n => exact ih n (by simpa using e)
theorem fts_get {xs : List Str} {φs : List (List D → Tp → Option (R × Tp))} (h : Paired (TOk P w K mg base k) xs φs) (n : Nat) (x : Str) (e : xs[n]? = some x) : TOk P w K mg base k x (Ψof φs n) := by
  induction h generalizing n with
  | nil => simp at e
  | cons r t ih =>
    cases n with
    | zero => simp at e; subst e; exact r
    | succ n => exact ih n (by simpa using e)
theorem fns_mono {j : Nat} {xs : List Str} {φs : List (List D → Option R)} (h : Paired (FOk P w K mg base j) xs φs) (hj : j ≤ k) : Paired (FOk P w K mg base k) xs φs := Paired.mapP h fun _ _ q => q.mono hj
theorem fns_snoc {xs : List Str} {φs : List (List D → Option R)} {x : Str} {φ : List D → Option R} (h : Paired (FOk P w K mg base k) xs φs) (q : FOk P w K mg base k x φ) : Paired (FOk P w K mg base k) (xs ++ [x]) (φs ++ [φ]) := by
  induction h with
  | nil => exact .cons q .nil
  | cons r t ih => exact .cons r ih
theorem env_mk {c : Cc} {φs : List (List D → Option R)} {ψs : List (List D → Tp → Option (R × Tp))} (hc : ∀ x d, c.cs.lookup x = some d → ∃ v u, mg x = some u ∧ RelV v u ∧ ∀ H, Rp K H v d) (hb : ∀ x, c.bl.contains x = true → mg x = none) (hf : Paired (FOk P w K mg base k) c.fs φs) (ht : Paired (TOk P w K mg base k) c.ft ψs) :
    Env1 P w K mg base k c (Φof φs) (Ψof ψs) := ⟨hc, hb, fns_get hf, fts_get ht⟩
/-- a def whose code is run -/
theorem run_ok {c : Cc} {φs : List (List D → Option R)} {x qual : Str} {st : Stmt} {f : Addr} {fd : FuncData} {ps : List Str} {code : List S} {fuel M : Nat}
    (V : Env1 P w K mg base k c (Φof φs) (Ψof [])) (F : Fun K x qual st f fd) (hm : mg x = some (.ref f)) (hbd : Binds K fd ps []) (hS : FnScope c.N ps c.sc) (hsc : c.sc = defScope st) (hc : compSs fuel c (defBody st) = some code) (hp : ps.length ≤ c.N.length) :
    FOk P w K mg base (k + 1) x (runF (Φof φs) M c.N.length ps.length code) := by
  refine ⟨f, fd, ps, fn_ev V F hS hsc hc hp fun ds r h => ?_, hm, F.kp, hbd⟩
  unfold runF at h
  split at h
  · rename_i hl
    obtain ⟨o, he, h⟩ := bind_some h
    rw [evSsK_eq] at he
    exact ⟨hl, M, o, he, h⟩
  · cases h
/-- a def by a function of one's own -/
theorem own_ok {c : Cc} {φs : List (List D → Option R)} {x qual : Str} {st : Stmt} {f : Addr} {fd : FuncData} {ps : List Str} {code : List S} {fuel : Nat} (φ : List D → Option R)
    (V : Env1 P w K mg base k c (Φof φs) (Ψof [])) (F : Fun K x qual st f fd) (hm : mg x = some (.ref f)) (hbd : Binds K fd ps []) (hS : FnScope c.N ps c.sc) (hsc : c.sc = defScope st) (hc : compSs fuel c (defBody st) = some code) (hp : ps.length ≤ c.N.length)
    (hφ : ∀ ds r, φ ds = some r → ds.length = ps.length ∧ ∃ M o, evSs (Φof φs) (Ψof []) M (start0 c.N.length ds) τ0 code = some o ∧ retOf o = some r) : FOk P w K mg base (k + 1) x φ :=
  ⟨f, fd, ps, fn_ev V F hS hsc hc hp hφ, hm, F.kp, hbd⟩

theorem con_all {cs : List (Str × D)} (h : ∀ p ∈ cs, ∃ v u, mg p.1 = some u ∧ RelV v u ∧ ∀ H, Rp K H v p.2) : ∀ x d, cs.lookup x = some d → ∃ v u, mg x = some u ∧ RelV v u ∧ ∀ H, Rp K H v d := by
  intro x d
  induction cs with
  | nil => intro e; cases e
  | cons p r ih =>
    intro e
    rw [List.lookup_cons] at e
    cases hb : x == p.1 with
    | true =>
      rw [hb] at e
      cases e
      have e1 : x = p.1 := by simpa using hb
      rw [e1]
      exact h p List.mem_cons_self
    | false =>
      rw [hb] at e
      exact ih (fun q hq => h q (List.mem_cons_of_mem _ hq)) e
theorem con_tup {x : Str} {a : Addr} {o1 : Option Addr} {o2 : Array (Option Value)} {its : Array Value} {n : Nat} {ns : List Int} (hm : mg x = some (.ref a)) (hl : K.lookup a = some ⟨.type "tuple", o1, .seq its n, o2⟩) (hz : its.size ≤ sizeLine) (hv : Vals (ns.map V.int) its.toList) :
    ∃ v u, mg x = some u ∧ RelV v u ∧ ∀ H, Rp K H v (.tuple (ns.map PyData.int)) := by
  refine ⟨.ref a, _, hm, rfl, fun H => ⟨a, ns.map V.int, rfl, .inr ⟨_, its, n, hl, rfl, rfl, hz, hv⟩, ?_⟩⟩
  clear hv
  induction ns with
  | nil => exact rfl
  | cons i ns ih => exact ⟨_, _, rfl, rfl, ih⟩

/-! ### the law -/
def spLaw (K : PySem.W.Frag) : Sp := fun vs H Q _ => ∃ (a : Addr) (ns : List Int), vs = [.ref a] ∧ SqL K H a (ns.map V.int) ∧ ns.length ≤ 63 ∧ ∀ H', Q (.bl true) H'
theorem PSs.ex {X : Cx} {ι : Type} {st : List Stmt} {t : ι → TS} (h : ∀ i, PSs X st (t i)) : PSs X st (fun D σ H => ∃ i, t i D σ H) := ⟨fun pins s σ H D I ⟨i, q⟩ => (h i).run pins s σ H D I q⟩
theorem tape_rel {H' : Hp} {a p b : Addr} {ns : List Int} {seed : Int} {n : Nat} (hb : H' b = some (.lst (ns.map V.int))) (hp : H' p = some (.lst [.ref b, .int 0, .int 0, .int seed])) (nb : p ≠ b) :
    Rel K ⟨some p, b⟩ (.un :: .tp :: List.replicate n .un) (del H' p) (some (.ref a) :: some (.ref p) :: List.replicate n none) H' ∧ TpOk K ⟨some p, b⟩ (del H' p) H' ⟨ns, 0, 0, seed⟩ := by
  have no : ∀ (i : Nat) (di : List D), (Sl.un :: Sl.tp :: List.replicate n Sl.un)[i]? = some (.ow di) → False := fun i di e => by
    match i, e with
    | 0, e => simp at e
    | 1, e => simp at e
    | i + 2, e =>
      simp only [List.getElem?_cons_succ, List.getElem?_replicate] at e
      split at e <;> cases e
  refine ⟨⟨by simp, del_sub, fun i s e => ?_, fun i j di dj q e1 e2 e3 e4 => (no i di e1).elim⟩, fun q e => ?_⟩
  · match i, e with
    | 0, e => simp at e; subst e; trivial
    | 1, e => simp at e; subst e; exact ⟨p, rfl, rfl⟩
    | i + 2, e =>
      simp only [List.getElem?_cons_succ, List.getElem?_replicate] at e
      split at e
      · cases e; trivial
      · cases e
  · cases e
    exact ⟨del_same, hp, .inl (.inl (by rw [del_ne nb.symm]; exact hb))⟩
theorem law_ev {c : Cc} {Φ : Nat → List D → Option R} {Ψ : Nat → List D → Tp → Option (R × Tp)} {st : Stmt} {f fB : Addr} {fd fdB : FuncData} {rest : List Stmt} {code : List S} {fuel : Nat} {p1 p2 p3 p4 p5 : Pos} {N0 : List Str}
    (V : Env1 P w K mg base k c Φ Ψ) (F : Fun K "law" "law" st f fd) (hS : FnScope c.N ["script"] c.sc) (hsc : c.sc = defScope st) (hN : c.N = ("script" : Str) :: ("d" : Str) :: N0) (hloc : c.sc.names.lookup ("d" : Str) = some .local ∨ c.sc.names.lookup ("d" : Str) = some .cell) (hscr : Vis c.sc "script") (hgl : c.sc.names.lookup ("_law_begin" : Str) = some .globalImplicit)
    (GB : FnOk P w K mg base CX0 k fB fdB ["script"] (spBegin K)) (mB : mg "_law_begin" = some (.ref fB)) (kB : PySem.W.keepIn K (.ref fB) = true) (bB : Binds K fdB ["script"] [])
    (hbody : defBody st = .Assign [.Name "d" p1] (.Call (.Name "_law_begin" p2) [.Name "script" p3] [] p4) p5 :: rest) (hc : compSs fuel c rest = some code)
    (hlaw : ∀ ns seed, ∃ M τ', evSs Φ Ψ M (.un :: .tp :: List.replicate N0.length .un) ⟨ns, 0, 0, seed⟩ code = some (.rt ⟨.S, .bool true⟩ τ')) : FnOk P w K mg base CX0 (k + 1) f fd ["script"] (spLaw K) := by
  refine F.ok (N := c.N) (by rw [← hsc]; exact hS) (fun vs H Q E h => ?_) (fun cdv A outer s H vs Q E hr h => ?_)
  · obtain ⟨a, ns, rfl, _⟩ := h
    rfl
  · obtain ⟨a, ns, rfl, hs, hl, hQ⟩ := h
    rw [← hsc] at hr ⊢
    have C := V.cx hS hr (outer := outer) (E := E) (H := H)
    rw [hbody]
    refine ⟨_, pss_cons (ps_set (i := 1) hS.nd (by show c.N[1]? = _; rw [hN]; rfl) hloc (pe_call (dvs := []) GB hr hgl mB kB bB .nil (pass0 (X := _)) (pa_cons (pe_var (i := 0) (by show c.N[0]? = _; rw [hN]; rfl) hscr) pa_nil))) (PSs.ex (ι := Ta × Nat) fun i => (comp_ok (ta := i.1) (M := i.2) C (fun _ => rfl) fuel).2 _ _ hc), ?_⟩
    refine ⟨.ref a, by rw [hN]; rfl, a, ns, rfl, hs, hl, fun H' p b seed s1 npb hb hp => ?_⟩
    obtain ⟨M, τ', hev⟩ := hlaw ns seed
    obtain ⟨r1, r2⟩ := tape_rel (K := K) (a := a) (n := N0.length) hb hp npb
    refine ⟨(⟨some p, b⟩, M), del H' p, _, _, _, ?_, r2, hev, ?_⟩
    · rw [hN]
      exact r1
    · intro v H2 S2 _ _ _ hv
      have hv' : v = .bl true := hv
      subst hv'
      exact hQ H2
end
end Ev

/-! ## Ev15 -/
namespace Ev
open PySem PySem.Spec PyProof.Rows L2
/-- a def by its combinators -/
noncomputable def runM (N n : Nat) (ms : MS) : List D → Option R := fun ds => iteB (Nat.beq ds.length n) ((ms (start0 N ds) τ0).bind retOf) none
theorem runM_eq {Φ : Nat → List D → Option R} {M N n : Nat} {ms : MS} {code : List S} (h : ms = evSsK Φ (Ψof []) M code) : runM N n ms = runF Φ M N n code := by
  funext ds
  unfold runM runF
  rw [iteB_eq, h, beq_dec]
  by_cases g : ds.length = n
  · simp [g]
  · simp [g]
section
variable {P : Program} {w : World} {K : PySem.W.Frag} {mg : Str → Option Value} {base : Heap} {k : Nat}
theorem runM_ok {c : Cc} {φs : List (List D → Option R)} {x qual : Str} {st : Stmt} {f : Addr} {fd : FuncData} {ps : List Str} {code : List S} {fuel M : Nat} {ms : MS} (h : ms = evSsK (Φof φs) (Ψof []) M code)
    (V : Env1 P w K mg base k c (Φof φs) (Ψof [])) (F : Fun K x qual st f fd) (hm : mg x = some (.ref f)) (hbd : Binds K fd ps []) (hS : FnScope c.N ps c.sc) (hsc : c.sc = defScope st) (hc : compSs fuel c (defBody st) = some code) (hp : ps.length ≤ c.N.length) :
    FOk P w K mg base (k + 1) x (runM c.N.length ps.length ms) := by
  rw [runM_eq h]
  exact run_ok V F hm hbd hS hsc hc hp
end
/-- a number drawn from the tape, with a number added -/
theorem draw_add {Φ : Nat → List D → Option R} {M : Nat} {ρ : Rho} {τ : Tp} {j : Nat} {c m : Int} (h : ρ[1]? = some .tp) (h0 : 0 < m) (h1 : m < 1073741824) :
    evS Φ (Ψof [takeF]) M ρ τ (.set (.nm j) (.bin .add (.cst (.int c)) (.callT 0 1 [.cst (.int m)]))) = some (.nx (ρ.set j (.im (.int (c + (takeM τ m).1)))) (takeM τ m).2) := by
  simp [evS, ev, evs, Ψof, takeF, clean, binD, putTg, putR, noList, h, h0, h1]
theorem draw {Φ : Nat → List D → Option R} {M : Nat} {ρ : Rho} {τ : Tp} {j : Nat} {m : Int} (h : ρ[1]? = some .tp) (h0 : 0 < m) (h1 : m < 1073741824) :
    evS Φ (Ψof [takeF]) M ρ τ (.set (.nm j) (.callT 0 1 [.cst (.int m)])) = some (.nx (ρ.set j (.im (.int (takeM τ m).1))) (takeM τ m).2) := by
  simp [evS, ev, evs, Ψof, takeF, clean, putTg, putR, noList, h, h0, h1]
theorem evSs_cons {Φ : Nat → List D → Option R} {Ψ : Nat → List D → Tp → Option (R × Tp)} {M : Nat} {ρ ρ1 : Rho} {τ τ1 : Tp} {s : S} {ss : List S} (h : evS Φ Ψ M ρ τ s = some (.nx ρ1 τ1)) : evSs Φ Ψ M ρ τ (s :: ss) = evSs Φ Ψ M ρ1 τ1 ss := by
  rw [evSs, h]; rfl
/-- it ends in True -/
def okTrue : Option Out → Bool
  | some (.rt ⟨.S, .bool true⟩ _) => true
  | _ => false
theorem okTrue_of {o : Option Out} (h : okTrue o = true) : ∃ τ, o = some (.rt ⟨.S, .bool true⟩ τ) := by
  unfold okTrue at h
  split at h
  · exact ⟨_, rfl⟩
  · cases h
end Ev

namespace K40
open PySem PySem.Spec PyProof.Rows L2 Ev
def topS (i : Nat) : Stmt := PySem.Challenge.pw_numberguild_k40_whole_equations_of_pell.main.body.getD i (.Pass ⟨0, 0, 0, 0⟩)
def cons : List (Str × Ev.D) := [("MOST_DEPTH", .int 8), ("MOST_PARTS", .int 60), ("MOST_TERMS", .int 60), ("ZERO", .tuple [.int 0, .int 1])]
def blts : List Str := ["any", "int", "len", "list", "max", "min", "range", "tuple"]
/-! common -/
abbrev u_common_st : Stmt := topS 3
abbrev u_common_N : List Str := ["one", "other", "first", "second", "times", "k", "number"]
theorem u_common_sc : FnScope u_common_N ["one", "other"] (defScope u_common_st) := ⟨rfl, rfl, rfl, by decide +kernel, rfl, by decide +kernel, by decide +kernel⟩
def u_common_fs : List Str := []
def u_common_cc : Cc := ⟨u_common_N, defScope u_common_st, cons, u_common_fs, [], blts⟩
def u_common_code : List S :=
   [.set (.tu [2, 3]) (.tup [(.tup [(.var 0), (.cst (.int 1)), (.cst (.int 0))]), (.tup [(.var 1), (.cst (.int 0)), (.cst (.int 1))])]),
    .whl (.cmp .ne (.idx (.var 3) (.cst (.int 0))) (.cst (.int 0))) [.set (.nm 4) (.bin .fdiv (.idx (.var 2) (.cst (.int 0))) (.idx (.var 3) (.cst (.int 0)))),
    .set (.tu [2, 3]) (.tup [(.var 3), (.blt .tuple [(.comp (.bin .sub (.idx (.var 2) (.var 5)) (.bin .mul (.var 4) (.idx (.var 3) (.var 5)))) (.nm 5) 1 [(.cst (.int 3))] [])])])],
    .ret (.ite (.cmp .lt (.idx (.var 2) (.cst (.int 0))) (.cst (.int 0))) (.blt .tuple [(.comp (.bin .sub (.cst (.int 0)) (.var 6)) (.nm 6) 0 [(.var 2)] [])]) (.var 2))]
theorem u_common_comp : compSs 100 u_common_cc (defBody u_common_st) = some u_common_code := by kernel_rfl
noncomputable def u_common_φs : List (List Ev.D → Option Ev.R) := []
noncomputable def u_common_ms : MS := (sqK (sSet (.tu [(2), (3)]) (kTup (kCons (kTup (kCons (kVar 0) (kCons (fun _ τ => some (⟨.S, (.int 1)⟩, τ)) (kCons (fun _ τ => some (⟨.S, (.int 0)⟩, τ)) kNil)))) (kCons (kTup (kCons (kVar 1) (kCons (fun _ τ => some (⟨.S, (.int 0)⟩, τ)) (kCons (fun _ τ => some (⟨.S, (.int 1)⟩, τ)) kNil)))) kNil)))) (sqK (whK (kCmp .ne (kIdx (kVar 3) (fun _ τ => some (⟨.S, (.int 0)⟩, τ))) (fun _ τ => some (⟨.S, (.int 0)⟩, τ))) (sqK (sSet (.nm 4) (kBin .fdiv (kIdx (kVar 2) (fun _ τ => some (⟨.S, (.int 0)⟩, τ))) (kIdx (kVar 3) (fun _ τ => some (⟨.S, (.int 0)⟩, τ))))) (sqK (sSet (.tu [(2), (3)]) (kTup (kCons (kVar 3) (kCons (kBlt .tuple (kCons (kComp (kBin .sub (kIdx (kVar 2) (kVar 5)) (kBin .mul (kVar 4) (kIdx (kVar 3) (kVar 5)))) (.nm 5) 1 (kCons (fun _ τ => some (⟨.S, (.int 3)⟩, τ)) kNil) kNil) kNil)) kNil)))) (fun ρ τ => some (.nx ρ τ)))) 1000) (sqK (sRet (kIte (kCmp .lt (kIdx (kVar 2) (fun _ τ => some (⟨.S, (.int 0)⟩, τ))) (fun _ τ => some (⟨.S, (.int 0)⟩, τ))) (kBlt .tuple (kCons (kComp (kBin .sub (fun _ τ => some (⟨.S, (.int 0)⟩, τ)) (kVar 6)) (.nm 6) 0 (kCons (kVar 2) kNil) kNil) kNil)) (kVar 2))) (fun ρ τ => some (.nx ρ τ)))))
theorem u_common_ms_eq : u_common_ms = evSsK (Φof u_common_φs) (Ψof []) 1000 u_common_code := by kernel_rfl
noncomputable def u_common_φ : List Ev.D → Option Ev.R := runM 7 2 u_common_ms
/-! tower -/
abbrev u_tower_st : Stmt := topS 4
abbrev u_tower_N : List Str := ["base", "times", "found"]
theorem u_tower_sc : FnScope u_tower_N ["base", "times"] (defScope u_tower_st) := ⟨rfl, rfl, rfl, by decide +kernel, rfl, by decide +kernel, by decide +kernel⟩
def u_tower_fs : List Str := ["common"]
def u_tower_cc : Cc := ⟨u_tower_N, defScope u_tower_st, cons, u_tower_fs, [], blts⟩
def u_tower_code : List S :=
   [.set (.nm 2) (.cst (.int 1)),
    .whl (.cmp .gt (.var 1) (.cst (.int 0))) [.ite (.cmp .eq (.bin .mod (.var 1) (.cst (.int 2))) (.cst (.int 1))) [.aug 2 .mul (.var 0)] [],
    .aug 0 .mul (.var 0),
    .aug 1 .fdiv (.cst (.int 2))],
    .retv 2]
theorem u_tower_comp : compSs 100 u_tower_cc (defBody u_tower_st) = some u_tower_code := by kernel_rfl
noncomputable def u_tower_φs : List (List Ev.D → Option Ev.R) := [u_common_φ]
noncomputable def u_tower_ms : MS := (sqK (sSet (.nm 2) (fun _ τ => some (⟨.S, (.int 1)⟩, τ))) (sqK (whK (kCmp .gt (kVar 1) (fun _ τ => some (⟨.S, (.int 0)⟩, τ))) (sqK (sIte (kCmp .eq (kBin .mod (kVar 1) (fun _ τ => some (⟨.S, (.int 2)⟩, τ))) (fun _ τ => some (⟨.S, (.int 1)⟩, τ))) (sqK (sAug 2 .mul (kVar 0)) (fun ρ τ => some (.nx ρ τ))) (fun ρ τ => some (.nx ρ τ))) (sqK (sAug 0 .mul (kVar 0)) (sqK (sAug 1 .fdiv (fun _ τ => some (⟨.S, (.int 2)⟩, τ))) (fun ρ τ => some (.nx ρ τ))))) 1000) (sqK (sRetv 2) (fun ρ τ => some (.nx ρ τ)))))
theorem u_tower_ms_eq : u_tower_ms = evSsK (Φof u_tower_φs) (Ψof []) 1000 u_tower_code := by kernel_rfl
noncomputable def u_tower_φ : List Ev.D → Option Ev.R := runM 3 2 u_tower_ms
/-! root -/
abbrev u_root_st : Stmt := topS 5
abbrev u_root_N : List Str := ["number", "degree", "found", "after"]
theorem u_root_sc : FnScope u_root_N ["number", "degree"] (defScope u_root_st) := ⟨rfl, rfl, rfl, by decide +kernel, rfl, by decide +kernel, by decide +kernel⟩
def u_root_fs : List Str := ["tower", "common"]
def u_root_cc : Cc := ⟨u_root_N, defScope u_root_st, cons, u_root_fs, [], blts⟩
def u_root_code : List S :=
   [.ite (.cmp .lt (.var 0) (.cst (.int 0))) [.nev] [],
    .ite (.cmp .lt (.var 1) (.cst (.int 1))) [.nev] [],
    .ite (.cmp .ge (.var 1) (.blt .bitlen [(.var 0)])) [.ret (.blt .min [(.var 0), (.cst (.int 1))])] [],
    .set (.nm 2) (.call 0 [(.cst (.int 2)), (.bin .sub (.cst (.int 0)) (.bin .fdiv (.bin .sub (.cst (.int 0)) (.blt .bitlen [(.var 0)])) (.var 1)))]),
    .set (.nm 3) (.bin .fdiv (.bin .add (.bin .mul (.bin .sub (.var 1) (.cst (.int 1))) (.var 2)) (.bin .fdiv (.var 0) (.call 0 [(.var 2), (.bin .sub (.var 1) (.cst (.int 1)))]))) (.var 1)),
    .whl (.cmp .lt (.var 3) (.var 2)) [.set (.nm 2) (.var 3),
    .set (.nm 3) (.bin .fdiv (.bin .add (.bin .mul (.bin .sub (.var 1) (.cst (.int 1))) (.var 2)) (.bin .fdiv (.var 0) (.call 0 [(.var 2), (.bin .sub (.var 1) (.cst (.int 1)))]))) (.var 1))],
    .retv 2]
theorem u_root_comp : compSs 100 u_root_cc (defBody u_root_st) = some u_root_code := by kernel_rfl
noncomputable def u_root_φs : List (List Ev.D → Option Ev.R) := [u_tower_φ, u_common_φ]
noncomputable def u_root_ms : MS := (sqK (sIte (kCmp .lt (kVar 0) (fun _ τ => some (⟨.S, (.int 0)⟩, τ))) (sqK (fun _ _ => none) (fun ρ τ => some (.nx ρ τ))) (fun ρ τ => some (.nx ρ τ))) (sqK (sIte (kCmp .lt (kVar 1) (fun _ τ => some (⟨.S, (.int 1)⟩, τ))) (sqK (fun _ _ => none) (fun ρ τ => some (.nx ρ τ))) (fun ρ τ => some (.nx ρ τ))) (sqK (sIte (kCmp .ge (kVar 1) (kBlt .bitlen (kCons (kVar 0) kNil))) (sqK (sRet (kBlt .min (kCons (kVar 0) (kCons (fun _ τ => some (⟨.S, (.int 1)⟩, τ)) kNil)))) (fun ρ τ => some (.nx ρ τ))) (fun ρ τ => some (.nx ρ τ))) (sqK (sSet (.nm 2) (kCall (Φof u_root_φs 0) (kCons (fun _ τ => some (⟨.S, (.int 2)⟩, τ)) (kCons (kBin .sub (fun _ τ => some (⟨.S, (.int 0)⟩, τ)) (kBin .fdiv (kBin .sub (fun _ τ => some (⟨.S, (.int 0)⟩, τ)) (kBlt .bitlen (kCons (kVar 0) kNil))) (kVar 1))) kNil)))) (sqK (sSet (.nm 3) (kBin .fdiv (kBin .add (kBin .mul (kBin .sub (kVar 1) (fun _ τ => some (⟨.S, (.int 1)⟩, τ))) (kVar 2)) (kBin .fdiv (kVar 0) (kCall (Φof u_root_φs 0) (kCons (kVar 2) (kCons (kBin .sub (kVar 1) (fun _ τ => some (⟨.S, (.int 1)⟩, τ))) kNil))))) (kVar 1))) (sqK (whK (kCmp .lt (kVar 3) (kVar 2)) (sqK (sSet (.nm 2) (kVar 3)) (sqK (sSet (.nm 3) (kBin .fdiv (kBin .add (kBin .mul (kBin .sub (kVar 1) (fun _ τ => some (⟨.S, (.int 1)⟩, τ))) (kVar 2)) (kBin .fdiv (kVar 0) (kCall (Φof u_root_φs 0) (kCons (kVar 2) (kCons (kBin .sub (kVar 1) (fun _ τ => some (⟨.S, (.int 1)⟩, τ))) kNil))))) (kVar 1))) (fun ρ τ => some (.nx ρ τ)))) 1000) (sqK (sRetv 2) (fun ρ τ => some (.nx ρ τ)))))))))
theorem u_root_ms_eq : u_root_ms = evSsK (Φof u_root_φs) (Ψof []) 1000 u_root_code := by kernel_rfl
noncomputable def u_root_φ : List Ev.D → Option Ev.R := runM 4 2 u_root_ms
/-! fraction -/
abbrev u_fraction_st : Stmt := topS 8
abbrev u_fraction_N : List Str := ["top", "bottom", "divisor"]
theorem u_fraction_sc : FnScope u_fraction_N ["top", "bottom"] (defScope u_fraction_st) := ⟨rfl, rfl, rfl, by decide +kernel, rfl, by decide +kernel, by decide +kernel⟩
def u_fraction_fs : List Str := ["root", "tower", "common"]
def u_fraction_cc : Cc := ⟨u_fraction_N, defScope u_fraction_st, cons, u_fraction_fs, [], blts⟩
def u_fraction_code : List S :=
   [.ite (.cmp .eq (.var 1) (.cst (.int 0))) [.nev] [],
    .set (.nm 2) (.idx (.call 2 [(.var 0), (.var 1)]) (.cst (.int 0))),
    .ite (.cmp .lt (.var 1) (.cst (.int 0))) [.set (.nm 2) (.bin .sub (.cst (.int 0)) (.var 2))] [],
    .ret (.tup [(.bin .fdiv (.var 0) (.var 2)), (.bin .fdiv (.var 1) (.var 2))])]
theorem u_fraction_comp : compSs 100 u_fraction_cc (defBody u_fraction_st) = some u_fraction_code := by kernel_rfl
noncomputable def u_fraction_φs : List (List Ev.D → Option Ev.R) := [u_root_φ, u_tower_φ, u_common_φ]
noncomputable def u_fraction_ms : MS := (sqK (sIte (kCmp .eq (kVar 1) (fun _ τ => some (⟨.S, (.int 0)⟩, τ))) (sqK (fun _ _ => none) (fun ρ τ => some (.nx ρ τ))) (fun ρ τ => some (.nx ρ τ))) (sqK (sSet (.nm 2) (kIdx (kCall (Φof u_fraction_φs 2) (kCons (kVar 0) (kCons (kVar 1) kNil))) (fun _ τ => some (⟨.S, (.int 0)⟩, τ)))) (sqK (sIte (kCmp .lt (kVar 1) (fun _ τ => some (⟨.S, (.int 0)⟩, τ))) (sqK (sSet (.nm 2) (kBin .sub (fun _ τ => some (⟨.S, (.int 0)⟩, τ)) (kVar 2))) (fun ρ τ => some (.nx ρ τ))) (fun ρ τ => some (.nx ρ τ))) (sqK (sRet (kTup (kCons (kBin .fdiv (kVar 0) (kVar 2)) (kCons (kBin .fdiv (kVar 1) (kVar 2)) kNil)))) (fun ρ τ => some (.nx ρ τ))))))
theorem u_fraction_ms_eq : u_fraction_ms = evSsK (Φof u_fraction_φs) (Ψof []) 1000 u_fraction_code := by kernel_rfl
noncomputable def u_fraction_φ : List Ev.D → Option Ev.R := runM 3 2 u_fraction_ms
/-! plus -/
abbrev u_plus_st : Stmt := topS 9
abbrev u_plus_N : List Str := ["one", "other"]
theorem u_plus_sc : FnScope u_plus_N ["one", "other"] (defScope u_plus_st) := ⟨rfl, rfl, rfl, by decide +kernel, rfl, by decide +kernel, by decide +kernel⟩
def u_plus_fs : List Str := ["fraction", "root", "tower", "common"]
def u_plus_cc : Cc := ⟨u_plus_N, defScope u_plus_st, cons, u_plus_fs, [], blts⟩
def u_plus_code : List S :=
   [.ret (.call 0 [(.bin .add (.bin .mul (.idx (.var 0) (.cst (.int 0))) (.idx (.var 1) (.cst (.int 1)))) (.bin .mul (.idx (.var 1) (.cst (.int 0))) (.idx (.var 0) (.cst (.int 1))))), (.bin .mul (.idx (.var 0) (.cst (.int 1))) (.idx (.var 1) (.cst (.int 1))))])]
theorem u_plus_comp : compSs 100 u_plus_cc (defBody u_plus_st) = some u_plus_code := by kernel_rfl
noncomputable def u_plus_φs : List (List Ev.D → Option Ev.R) := [u_fraction_φ, u_root_φ, u_tower_φ, u_common_φ]
noncomputable def u_plus_ms : MS := (sqK (sRet (kCall (Φof u_plus_φs 0) (kCons (kBin .add (kBin .mul (kIdx (kVar 0) (fun _ τ => some (⟨.S, (.int 0)⟩, τ))) (kIdx (kVar 1) (fun _ τ => some (⟨.S, (.int 1)⟩, τ)))) (kBin .mul (kIdx (kVar 1) (fun _ τ => some (⟨.S, (.int 0)⟩, τ))) (kIdx (kVar 0) (fun _ τ => some (⟨.S, (.int 1)⟩, τ))))) (kCons (kBin .mul (kIdx (kVar 0) (fun _ τ => some (⟨.S, (.int 1)⟩, τ))) (kIdx (kVar 1) (fun _ τ => some (⟨.S, (.int 1)⟩, τ)))) kNil)))) (fun ρ τ => some (.nx ρ τ)))
theorem u_plus_ms_eq : u_plus_ms = evSsK (Φof u_plus_φs) (Ψof []) 1000 u_plus_code := by kernel_rfl
noncomputable def u_plus_φ : List Ev.D → Option Ev.R := runM 2 2 u_plus_ms
/-! times -/
abbrev u_times_st : Stmt := topS 10
abbrev u_times_N : List Str := ["one", "other"]
theorem u_times_sc : FnScope u_times_N ["one", "other"] (defScope u_times_st) := ⟨rfl, rfl, rfl, by decide +kernel, rfl, by decide +kernel, by decide +kernel⟩
def u_times_fs : List Str := ["plus", "fraction", "root", "tower", "common"]
def u_times_cc : Cc := ⟨u_times_N, defScope u_times_st, cons, u_times_fs, [], blts⟩
def u_times_code : List S :=
   [.ret (.call 1 [(.bin .mul (.idx (.var 0) (.cst (.int 0))) (.idx (.var 1) (.cst (.int 0)))), (.bin .mul (.idx (.var 0) (.cst (.int 1))) (.idx (.var 1) (.cst (.int 1))))])]
theorem u_times_comp : compSs 100 u_times_cc (defBody u_times_st) = some u_times_code := by kernel_rfl
noncomputable def u_times_φs : List (List Ev.D → Option Ev.R) := [u_plus_φ, u_fraction_φ, u_root_φ, u_tower_φ, u_common_φ]
noncomputable def u_times_ms : MS := (sqK (sRet (kCall (Φof u_times_φs 1) (kCons (kBin .mul (kIdx (kVar 0) (fun _ τ => some (⟨.S, (.int 0)⟩, τ))) (kIdx (kVar 1) (fun _ τ => some (⟨.S, (.int 0)⟩, τ)))) (kCons (kBin .mul (kIdx (kVar 0) (fun _ τ => some (⟨.S, (.int 1)⟩, τ))) (kIdx (kVar 1) (fun _ τ => some (⟨.S, (.int 1)⟩, τ)))) kNil)))) (fun ρ τ => some (.nx ρ τ)))
theorem u_times_ms_eq : u_times_ms = evSsK (Φof u_times_φs) (Ψof []) 1000 u_times_code := by kernel_rfl
noncomputable def u_times_φ : List Ev.D → Option Ev.R := runM 2 2 u_times_ms
/-! total -/
abbrev u_total_st : Stmt := topS 11
abbrev u_total_N : List Str := ["rows", "found", "row"]
theorem u_total_sc : FnScope u_total_N ["rows"] (defScope u_total_st) := ⟨rfl, rfl, rfl, by decide +kernel, rfl, by decide +kernel, by decide +kernel⟩
def u_total_fs : List Str := ["times", "plus", "fraction", "root", "tower", "common"]
def u_total_cc : Cc := ⟨u_total_N, defScope u_total_st, cons, u_total_fs, [], blts⟩
def u_total_code : List S :=
   [.set (.nm 1) (.cst (.tuple [.int 0, .int 1])),
    .forv (.nm 2) 0 [.set (.nm 1) (.call 1 [(.var 1), (.var 2)])],
    .retv 1]
theorem u_total_comp : compSs 100 u_total_cc (defBody u_total_st) = some u_total_code := by kernel_rfl
noncomputable def u_total_φs : List (List Ev.D → Option Ev.R) := [u_times_φ, u_plus_φ, u_fraction_φ, u_root_φ, u_tower_φ, u_common_φ]
noncomputable def u_total_ms : MS := (sqK (sSet (.nm 1) (fun _ τ => some (⟨.S, (.tuple [(.int 0), (.int 1)])⟩, τ))) (sqK (sForv (.nm 2) 0 (sqK (sSet (.nm 1) (kCall (Φof u_total_φs 1) (kCons (kVar 1) (kCons (kVar 2) kNil)))) (fun ρ τ => some (.nx ρ τ)))) (sqK (sRetv 1) (fun ρ τ => some (.nx ρ τ)))))
theorem u_total_ms_eq : u_total_ms = evSsK (Φof u_total_φs) (Ψof []) 1000 u_total_code := by kernel_rfl
noncomputable def u_total_φ : List Ev.D → Option Ev.R := runM 3 1 u_total_ms
/-! check_parts -/
abbrev u_check_parts_st : Stmt := topS 14
abbrev u_check_parts_N : List Str := ["parts", "part"]
theorem u_check_parts_sc : FnScope u_check_parts_N ["parts"] (defScope u_check_parts_st) := ⟨rfl, rfl, rfl, by decide +kernel, rfl, by decide +kernel, by decide +kernel⟩
def u_check_parts_fs : List Str := ["total", "times", "plus", "fraction", "root", "tower", "common"]
def u_check_parts_cc : Cc := ⟨u_check_parts_N, defScope u_check_parts_st, cons, u_check_parts_fs, [], blts⟩
def u_check_parts_code : List S :=
   [.ite (.dis (.inv (.chn .le .le (.cst (.int 1)) (.blt .len [(.var 0)]) (.cst (.int 60)))) (.blt .any [(.comp (.cmp .lt (.var 1) (.cst (.int 1))) (.nm 1) 0 [(.slcL (.var 0) (.cst (.int 1)))] [])])) [.nev] []]
theorem u_check_parts_comp : compSs 100 u_check_parts_cc (defBody u_check_parts_st) = some u_check_parts_code := by kernel_rfl
noncomputable def u_check_parts_φs : List (List Ev.D → Option Ev.R) := [u_total_φ, u_times_φ, u_plus_φ, u_fraction_φ, u_root_φ, u_tower_φ, u_common_φ]
noncomputable def u_check_parts_ms : MS := (sqK (sIte (kDis (kInv (kChn .le .le (fun _ τ => some (⟨.S, (.int 1)⟩, τ)) (kBlt .len (kCons (kVar 0) kNil)) (fun _ τ => some (⟨.S, (.int 60)⟩, τ)))) (kBlt .any (kCons (kComp (kCmp .lt (kVar 1) (fun _ τ => some (⟨.S, (.int 1)⟩, τ))) (.nm 1) 0 (kCons (kSlcL (kVar 0) (fun _ τ => some (⟨.S, (.int 1)⟩, τ))) kNil) kNil) kNil))) (sqK (fun _ _ => none) (fun ρ τ => some (.nx ρ τ))) (fun ρ τ => some (.nx ρ τ))) (fun ρ τ => some (.nx ρ τ)))
theorem u_check_parts_ms_eq : u_check_parts_ms = evSsK (Φof u_check_parts_φs) (Ψof []) 1000 u_check_parts_code := by kernel_rfl
noncomputable def u_check_parts_φ : List Ev.D → Option Ev.R := runM 2 1 u_check_parts_ms
/-! steps -/
abbrev u_steps_st : Stmt := topS 15
abbrev u_steps_N : List Str := ["parts", "found", "before", "now", "part"]
theorem u_steps_sc : FnScope u_steps_N ["parts"] (defScope u_steps_st) := ⟨rfl, rfl, rfl, by decide +kernel, rfl, by decide +kernel, by decide +kernel⟩
def u_steps_fs : List Str := ["check_parts", "total", "times", "plus", "fraction", "root", "tower", "common"]
def u_steps_cc : Cc := ⟨u_steps_N, defScope u_steps_st, cons, u_steps_fs, [], blts⟩
def u_steps_code : List S :=
   [.exp (.call 0 [(.var 0)]),
    .set (.nm 1) (.lst []),
    .set (.tu [2, 3]) (.tup [(.tup [(.cst (.int 0)), (.cst (.int 1))]), (.tup [(.cst (.int 1)), (.cst (.int 0))])]),
    .forv (.nm 4) 0 [.par2 2 3 (.var 3) (.tup [(.bin .add (.bin .mul (.var 4) (.idx (.var 3) (.cst (.int 0)))) (.idx (.var 2) (.cst (.int 0)))), (.bin .add (.bin .mul (.var 4) (.idx (.var 3) (.cst (.int 1)))) (.idx (.var 2) (.cst (.int 1))))]),
    .app 1 (.var 3)],
    .ret (.blt .tuple [(.var 1)])]
theorem u_steps_comp : compSs 100 u_steps_cc (defBody u_steps_st) = some u_steps_code := by kernel_rfl
noncomputable def u_steps_φs : List (List Ev.D → Option Ev.R) := [u_check_parts_φ, u_total_φ, u_times_φ, u_plus_φ, u_fraction_φ, u_root_φ, u_tower_φ, u_common_φ]
noncomputable def u_steps_ms : MS := (sqK (sExp (kCall (Φof u_steps_φs 0) (kCons (kVar 0) kNil))) (sqK (sSet (.nm 1) (kLst kNil)) (sqK (sSet (.tu [(2), (3)]) (kTup (kCons (kTup (kCons (fun _ τ => some (⟨.S, (.int 0)⟩, τ)) (kCons (fun _ τ => some (⟨.S, (.int 1)⟩, τ)) kNil))) (kCons (kTup (kCons (fun _ τ => some (⟨.S, (.int 1)⟩, τ)) (kCons (fun _ τ => some (⟨.S, (.int 0)⟩, τ)) kNil))) kNil)))) (sqK (sForv (.nm 4) 0 (sqK (sPar2 2 3 (kVar 3) (kTup (kCons (kBin .add (kBin .mul (kVar 4) (kIdx (kVar 3) (fun _ τ => some (⟨.S, (.int 0)⟩, τ)))) (kIdx (kVar 2) (fun _ τ => some (⟨.S, (.int 0)⟩, τ)))) (kCons (kBin .add (kBin .mul (kVar 4) (kIdx (kVar 3) (fun _ τ => some (⟨.S, (.int 1)⟩, τ)))) (kIdx (kVar 2) (fun _ τ => some (⟨.S, (.int 1)⟩, τ)))) kNil)))) (sqK (sApp 1 (kVar 3)) (fun ρ τ => some (.nx ρ τ))))) (sqK (sRet (kBlt .tuple (kCons (kVar 1) kNil))) (fun ρ τ => some (.nx ρ τ)))))))
theorem u_steps_ms_eq : u_steps_ms = evSsK (Φof u_steps_φs) (Ψof []) 1000 u_steps_code := by kernel_rfl
noncomputable def u_steps_φ : List Ev.D → Option Ev.R := runM 5 1 u_steps_ms
/-! check_square -/
abbrev u_check_square_st : Stmt := topS 16
abbrev u_check_square_N : List Str := ["number"]
theorem u_check_square_sc : FnScope u_check_square_N ["number"] (defScope u_check_square_st) := ⟨rfl, rfl, rfl, by decide +kernel, rfl, by decide +kernel, by decide +kernel⟩
def u_check_square_fs : List Str := ["steps", "check_parts", "total", "times", "plus", "fraction", "root", "tower", "common"]
def u_check_square_cc : Cc := ⟨u_check_square_N, defScope u_check_square_st, cons, u_check_square_fs, [], blts⟩
def u_check_square_code : List S :=
   [.ite (.inv (.chn .le .le (.cst (.int 2)) (.var 0) (.cst (.int 10000)))) [.nev] [],
    .ite (.cmp .eq (.bin .pow (.call 6 [(.var 0), (.cst (.int 2))]) (.cst (.int 2))) (.var 0)) [.nev] []]
theorem u_check_square_comp : compSs 100 u_check_square_cc (defBody u_check_square_st) = some u_check_square_code := by kernel_rfl
noncomputable def u_check_square_φs : List (List Ev.D → Option Ev.R) := [u_steps_φ, u_check_parts_φ, u_total_φ, u_times_φ, u_plus_φ, u_fraction_φ, u_root_φ, u_tower_φ, u_common_φ]
noncomputable def u_check_square_ms : MS := (sqK (sIte (kInv (kChn .le .le (fun _ τ => some (⟨.S, (.int 2)⟩, τ)) (kVar 0) (fun _ τ => some (⟨.S, (.int 10000)⟩, τ)))) (sqK (fun _ _ => none) (fun ρ τ => some (.nx ρ τ))) (fun ρ τ => some (.nx ρ τ))) (sqK (sIte (kCmp .eq (kBin .pow (kCall (Φof u_check_square_φs 6) (kCons (kVar 0) (kCons (fun _ τ => some (⟨.S, (.int 2)⟩, τ)) kNil))) (fun _ τ => some (⟨.S, (.int 2)⟩, τ))) (kVar 0)) (sqK (fun _ _ => none) (fun ρ τ => some (.nx ρ τ))) (fun ρ τ => some (.nx ρ τ))) (fun ρ τ => some (.nx ρ τ))))
theorem u_check_square_ms_eq : u_check_square_ms = evSsK (Φof u_check_square_φs) (Ψof []) 1000 u_check_square_code := by kernel_rfl
noncomputable def u_check_square_φ : List Ev.D → Option Ev.R := runM 1 1 u_check_square_ms
/-! parts_of_root -/
abbrev u_parts_of_root_st : Stmt := topS 17
abbrev u_parts_of_root_N : List Str := ["number", "whole", "found", "add", "under", "part"]
theorem u_parts_of_root_sc : FnScope u_parts_of_root_N ["number"] (defScope u_parts_of_root_st) := ⟨rfl, rfl, rfl, by decide +kernel, rfl, by decide +kernel, by decide +kernel⟩
def u_parts_of_root_fs : List Str := ["check_square", "steps", "check_parts", "total", "times", "plus", "fraction", "root", "tower", "common"]
def u_parts_of_root_cc : Cc := ⟨u_parts_of_root_N, defScope u_parts_of_root_st, cons, u_parts_of_root_fs, [], blts⟩
def u_parts_of_root_code : List S :=
   [.exp (.call 0 [(.var 0)]),
    .set (.nm 1) (.call 7 [(.var 0), (.cst (.int 2))]),
    .set (.nm 2) (.lst []),
    .par3 3 4 5 (.cst (.int 0)) (.cst (.int 1)) (.var 1),
    .whl (.cmp .ne (.var 5) (.bin .mul (.cst (.int 2)) (.var 1))) [.set (.nm 3) (.bin .sub (.bin .mul (.var 5) (.var 4)) (.var 3)),
    .set (.nm 4) (.bin .fdiv (.bin .sub (.var 0) (.bin .mul (.var 3) (.var 3))) (.var 4)),
    .set (.nm 5) (.bin .fdiv (.bin .add (.var 1) (.var 3)) (.var 4)),
    .app 2 (.var 5)],
    .ret (.tup [(.var 1), (.blt .tuple [(.var 2)])])]
theorem u_parts_of_root_comp : compSs 100 u_parts_of_root_cc (defBody u_parts_of_root_st) = some u_parts_of_root_code := by kernel_rfl
noncomputable def u_parts_of_root_φs : List (List Ev.D → Option Ev.R) := [u_check_square_φ, u_steps_φ, u_check_parts_φ, u_total_φ, u_times_φ, u_plus_φ, u_fraction_φ, u_root_φ, u_tower_φ, u_common_φ]
noncomputable def u_parts_of_root_ms : MS := (sqK (sExp (kCall (Φof u_parts_of_root_φs 0) (kCons (kVar 0) kNil))) (sqK (sSet (.nm 1) (kCall (Φof u_parts_of_root_φs 7) (kCons (kVar 0) (kCons (fun _ τ => some (⟨.S, (.int 2)⟩, τ)) kNil)))) (sqK (sSet (.nm 2) (kLst kNil)) (sqK (sPar3 3 4 5 (fun _ τ => some (⟨.S, (.int 0)⟩, τ)) (fun _ τ => some (⟨.S, (.int 1)⟩, τ)) (kVar 1)) (sqK (whK (kCmp .ne (kVar 5) (kBin .mul (fun _ τ => some (⟨.S, (.int 2)⟩, τ)) (kVar 1))) (sqK (sSet (.nm 3) (kBin .sub (kBin .mul (kVar 5) (kVar 4)) (kVar 3))) (sqK (sSet (.nm 4) (kBin .fdiv (kBin .sub (kVar 0) (kBin .mul (kVar 3) (kVar 3))) (kVar 4))) (sqK (sSet (.nm 5) (kBin .fdiv (kBin .add (kVar 1) (kVar 3)) (kVar 4))) (sqK (sApp 2 (kVar 5)) (fun ρ τ => some (.nx ρ τ)))))) 1000) (sqK (sRet (kTup (kCons (kVar 1) (kCons (kBlt .tuple (kCons (kVar 2) kNil)) kNil)))) (fun ρ τ => some (.nx ρ τ))))))))
theorem u_parts_of_root_ms_eq : u_parts_of_root_ms = evSsK (Φof u_parts_of_root_φs) (Ψof []) 1000 u_parts_of_root_code := by kernel_rfl
noncomputable def u_parts_of_root_φ : List Ev.D → Option Ev.R := runM 6 1 u_parts_of_root_ms
/-! least_pair -/
abbrev u_least_pair_st : Stmt := topS 18
abbrev u_least_pair_N : List Str := ["number", "sign", "whole", "parts", "is_odd", "row", "before", "now", "part"]
theorem u_least_pair_sc : FnScope u_least_pair_N ["number", "sign"] (defScope u_least_pair_st) := ⟨rfl, rfl, rfl, by decide +kernel, rfl, by decide +kernel, by decide +kernel⟩
def u_least_pair_fs : List Str := ["parts_of_root", "check_square", "steps", "check_parts", "total", "times", "plus", "fraction", "root", "tower", "common"]
def u_least_pair_cc : Cc := ⟨u_least_pair_N, defScope u_least_pair_st, cons, u_least_pair_fs, [], blts⟩
def u_least_pair_code : List S :=
   [.set (.tu [2, 3]) (.call 0 [(.var 0)]),
    .ite (.cmp .notin (.var 1) (.tup [(.cst (.int 1)), (.neg (.cst (.int 1)))])) [.nev] [],
    .set (.nm 4) (.cmp .eq (.bin .mod (.blt .len [(.var 3)]) (.cst (.int 2))) (.cst (.int 1))),
    .ite (.con (.cmp .eq (.var 1) (.neg (.cst (.int 1)))) (.inv (.var 4))) [.ret (.cst (.none))] [],
    .set (.nm 5) (.bin .add (.tup [(.var 2)]) (.slcH (.var 3) (.neg (.cst (.int 1))))),
    .ite (.con (.cmp .eq (.var 1) (.cst (.int 1))) (.var 4)) [.set (.nm 5) (.bin .add (.bin .add (.tup [(.var 2)]) (.var 3)) (.slcH (.var 3) (.neg (.cst (.int 1)))))] [],
    .set (.tu [6, 7]) (.tup [(.tup [(.cst (.int 0)), (.cst (.int 1))]), (.tup [(.cst (.int 1)), (.cst (.int 0))])]),
    .forv (.nm 8) 5 [.par2 6 7 (.var 7) (.tup [(.bin .add (.bin .mul (.var 8) (.idx (.var 7) (.cst (.int 0)))) (.idx (.var 6) (.cst (.int 0)))), (.bin .add (.bin .mul (.var 8) (.idx (.var 7) (.cst (.int 1)))) (.idx (.var 6) (.cst (.int 1))))])],
    .retv 7]
theorem u_least_pair_comp : compSs 100 u_least_pair_cc (defBody u_least_pair_st) = some u_least_pair_code := by kernel_rfl
noncomputable def u_least_pair_φs : List (List Ev.D → Option Ev.R) := [u_parts_of_root_φ, u_check_square_φ, u_steps_φ, u_check_parts_φ, u_total_φ, u_times_φ, u_plus_φ, u_fraction_φ, u_root_φ, u_tower_φ, u_common_φ]
noncomputable def u_least_pair_ms : MS := (sqK (sSet (.tu [(2), (3)]) (kCall (Φof u_least_pair_φs 0) (kCons (kVar 0) kNil))) (sqK (sIte (kCmp .notin (kVar 1) (kTup (kCons (fun _ τ => some (⟨.S, (.int 1)⟩, τ)) (kCons (kNeg (fun _ τ => some (⟨.S, (.int 1)⟩, τ))) kNil)))) (sqK (fun _ _ => none) (fun ρ τ => some (.nx ρ τ))) (fun ρ τ => some (.nx ρ τ))) (sqK (sSet (.nm 4) (kCmp .eq (kBin .mod (kBlt .len (kCons (kVar 3) kNil)) (fun _ τ => some (⟨.S, (.int 2)⟩, τ))) (fun _ τ => some (⟨.S, (.int 1)⟩, τ)))) (sqK (sIte (kCon (kCmp .eq (kVar 1) (kNeg (fun _ τ => some (⟨.S, (.int 1)⟩, τ)))) (kInv (kVar 4))) (sqK (sRet (fun _ τ => some (⟨.S, (.none)⟩, τ))) (fun ρ τ => some (.nx ρ τ))) (fun ρ τ => some (.nx ρ τ))) (sqK (sSet (.nm 5) (kBin .add (kTup (kCons (kVar 2) kNil)) (kSlcH (kVar 3) (kNeg (fun _ τ => some (⟨.S, (.int 1)⟩, τ)))))) (sqK (sIte (kCon (kCmp .eq (kVar 1) (fun _ τ => some (⟨.S, (.int 1)⟩, τ))) (kVar 4)) (sqK (sSet (.nm 5) (kBin .add (kBin .add (kTup (kCons (kVar 2) kNil)) (kVar 3)) (kSlcH (kVar 3) (kNeg (fun _ τ => some (⟨.S, (.int 1)⟩, τ)))))) (fun ρ τ => some (.nx ρ τ))) (fun ρ τ => some (.nx ρ τ))) (sqK (sSet (.tu [(6), (7)]) (kTup (kCons (kTup (kCons (fun _ τ => some (⟨.S, (.int 0)⟩, τ)) (kCons (fun _ τ => some (⟨.S, (.int 1)⟩, τ)) kNil))) (kCons (kTup (kCons (fun _ τ => some (⟨.S, (.int 1)⟩, τ)) (kCons (fun _ τ => some (⟨.S, (.int 0)⟩, τ)) kNil))) kNil)))) (sqK (sForv (.nm 8) 5 (sqK (sPar2 6 7 (kVar 7) (kTup (kCons (kBin .add (kBin .mul (kVar 8) (kIdx (kVar 7) (fun _ τ => some (⟨.S, (.int 0)⟩, τ)))) (kIdx (kVar 6) (fun _ τ => some (⟨.S, (.int 0)⟩, τ)))) (kCons (kBin .add (kBin .mul (kVar 8) (kIdx (kVar 7) (fun _ τ => some (⟨.S, (.int 1)⟩, τ)))) (kIdx (kVar 6) (fun _ τ => some (⟨.S, (.int 1)⟩, τ)))) kNil)))) (fun ρ τ => some (.nx ρ τ)))) (sqK (sRetv 7) (fun ρ τ => some (.nx ρ τ)))))))))))
theorem u_least_pair_ms_eq : u_least_pair_ms = evSsK (Φof u_least_pair_φs) (Ψof []) 1000 u_least_pair_code := by kernel_rfl
noncomputable def u_least_pair_φ : List Ev.D → Option Ev.R := runM 9 2 u_least_pair_ms
/-! pairs -/
abbrev u_pairs_st : Stmt := topS 19
abbrev u_pairs_N : List Str := ["number", "many", "first", "found", "now", "_"]
theorem u_pairs_sc : FnScope u_pairs_N ["number", "many"] (defScope u_pairs_st) := ⟨rfl, rfl, rfl, by decide +kernel, rfl, by decide +kernel, by decide +kernel⟩
def u_pairs_fs : List Str := ["least_pair", "parts_of_root", "check_square", "steps", "check_parts", "total", "times", "plus", "fraction", "root", "tower", "common"]
def u_pairs_cc : Cc := ⟨u_pairs_N, defScope u_pairs_st, cons, u_pairs_fs, [], blts⟩
def u_pairs_code : List S :=
   [.set (.nm 2) (.call 0 [(.var 0), (.cst (.int 1))]),
    .ite (.inv (.chn .le .le (.cst (.int 0)) (.var 1) (.cst (.int 20)))) [.nev] [],
    .set (.nm 3) (.lst []),
    .set (.nm 4) (.var 2),
    .for_ (.nm 5) 1 [(.var 1)] [.app 3 (.var 4),
    .set (.nm 4) (.tup [(.bin .add (.bin .mul (.idx (.var 2) (.cst (.int 0))) (.idx (.var 4) (.cst (.int 0)))) (.bin .mul (.bin .mul (.var 0) (.idx (.var 2) (.cst (.int 1)))) (.idx (.var 4) (.cst (.int 1))))), (.bin .add (.bin .mul (.idx (.var 2) (.cst (.int 0))) (.idx (.var 4) (.cst (.int 1)))) (.bin .mul (.idx (.var 2) (.cst (.int 1))) (.idx (.var 4) (.cst (.int 0)))))])],
    .ret (.blt .tuple [(.var 3)])]
theorem u_pairs_comp : compSs 100 u_pairs_cc (defBody u_pairs_st) = some u_pairs_code := by kernel_rfl
noncomputable def u_pairs_φs : List (List Ev.D → Option Ev.R) := [u_least_pair_φ, u_parts_of_root_φ, u_check_square_φ, u_steps_φ, u_check_parts_φ, u_total_φ, u_times_φ, u_plus_φ, u_fraction_φ, u_root_φ, u_tower_φ, u_common_φ]
noncomputable def u_pairs_ms : MS := (sqK (sSet (.nm 2) (kCall (Φof u_pairs_φs 0) (kCons (kVar 0) (kCons (fun _ τ => some (⟨.S, (.int 1)⟩, τ)) kNil)))) (sqK (sIte (kInv (kChn .le .le (fun _ τ => some (⟨.S, (.int 0)⟩, τ)) (kVar 1) (fun _ τ => some (⟨.S, (.int 20)⟩, τ)))) (sqK (fun _ _ => none) (fun ρ τ => some (.nx ρ τ))) (fun ρ τ => some (.nx ρ τ))) (sqK (sSet (.nm 3) (kLst kNil)) (sqK (sSet (.nm 4) (kVar 2)) (sqK (sFor (.nm 5) 1 (kCons (kVar 1) kNil) (sqK (sApp 3 (kVar 4)) (sqK (sSet (.nm 4) (kTup (kCons (kBin .add (kBin .mul (kIdx (kVar 2) (fun _ τ => some (⟨.S, (.int 0)⟩, τ))) (kIdx (kVar 4) (fun _ τ => some (⟨.S, (.int 0)⟩, τ)))) (kBin .mul (kBin .mul (kVar 0) (kIdx (kVar 2) (fun _ τ => some (⟨.S, (.int 1)⟩, τ)))) (kIdx (kVar 4) (fun _ τ => some (⟨.S, (.int 1)⟩, τ))))) (kCons (kBin .add (kBin .mul (kIdx (kVar 2) (fun _ τ => some (⟨.S, (.int 0)⟩, τ))) (kIdx (kVar 4) (fun _ τ => some (⟨.S, (.int 1)⟩, τ)))) (kBin .mul (kIdx (kVar 2) (fun _ τ => some (⟨.S, (.int 1)⟩, τ))) (kIdx (kVar 4) (fun _ τ => some (⟨.S, (.int 0)⟩, τ))))) kNil)))) (fun ρ τ => some (.nx ρ τ))))) (sqK (sRet (kBlt .tuple (kCons (kVar 3) kNil))) (fun ρ τ => some (.nx ρ τ))))))))
theorem u_pairs_ms_eq : u_pairs_ms = evSsK (Φof u_pairs_φs) (Ψof []) 1000 u_pairs_code := by kernel_rfl
noncomputable def u_pairs_φ : List Ev.D → Option Ev.R := runM 6 2 u_pairs_ms
/-! value -/
abbrev u_value_st : Stmt := topS 21
abbrev u_value_N : List Str := ["form", "x", "y"]
theorem u_value_sc : FnScope u_value_N ["form", "x", "y"] (defScope u_value_st) := ⟨rfl, rfl, rfl, by decide +kernel, rfl, by decide +kernel, by decide +kernel⟩
def u_value_fs : List Str := ["pairs", "least_pair", "parts_of_root", "check_square", "steps", "check_parts", "total", "times", "plus", "fraction", "root", "tower", "common"]
def u_value_cc : Cc := ⟨u_value_N, defScope u_value_st, cons, u_value_fs, [], blts⟩
def u_value_code : List S :=
   [.ret (.bin .add (.bin .add (.bin .mul (.bin .mul (.idx (.var 0) (.cst (.int 0))) (.var 1)) (.var 1)) (.bin .mul (.bin .mul (.idx (.var 0) (.cst (.int 1))) (.var 1)) (.var 2))) (.bin .mul (.bin .mul (.idx (.var 0) (.cst (.int 2))) (.var 2)) (.var 2)))]
theorem u_value_comp : compSs 100 u_value_cc (defBody u_value_st) = some u_value_code := by kernel_rfl
noncomputable def u_value_φs : List (List Ev.D → Option Ev.R) := [u_pairs_φ, u_least_pair_φ, u_parts_of_root_φ, u_check_square_φ, u_steps_φ, u_check_parts_φ, u_total_φ, u_times_φ, u_plus_φ, u_fraction_φ, u_root_φ, u_tower_φ, u_common_φ]
noncomputable def u_value_ms : MS := (sqK (sRet (kBin .add (kBin .add (kBin .mul (kBin .mul (kIdx (kVar 0) (fun _ τ => some (⟨.S, (.int 0)⟩, τ))) (kVar 1)) (kVar 1)) (kBin .mul (kBin .mul (kIdx (kVar 0) (fun _ τ => some (⟨.S, (.int 1)⟩, τ))) (kVar 1)) (kVar 2))) (kBin .mul (kBin .mul (kIdx (kVar 0) (fun _ τ => some (⟨.S, (.int 2)⟩, τ))) (kVar 2)) (kVar 2)))) (fun ρ τ => some (.nx ρ τ)))
theorem u_value_ms_eq : u_value_ms = evSsK (Φof u_value_φs) (Ψof []) 1000 u_value_code := by kernel_rfl
noncomputable def u_value_φ : List Ev.D → Option Ev.R := runM 3 3 u_value_ms
/-! check -/
abbrev u_check_st : Stmt := topS 25
abbrev u_check_N : List Str := ["rule", "first"]
theorem u_check_sc : FnScope u_check_N ["rule", "first"] (defScope u_check_st) := ⟨rfl, rfl, rfl, by decide +kernel, rfl, by decide +kernel, by decide +kernel⟩
def u_check_fs : List Str := ["value", "pairs", "least_pair", "parts_of_root", "check_square", "steps", "check_parts", "total", "times", "plus", "fraction", "root", "tower", "common"]
def u_check_cc : Cc := ⟨u_check_N, defScope u_check_st, cons, u_check_fs, [], blts⟩
def u_check_code : List S :=
   [.ite (.inv (.chn .le .le (.cst (.int 1)) (.blt .len [(.var 0)]) (.cst (.int 8)))) [.nev] [],
    .ite (.cmp .ne (.blt .len [(.var 1)]) (.blt .len [(.var 0)])) [.nev] []]
theorem u_check_comp : compSs 100 u_check_cc (defBody u_check_st) = some u_check_code := by kernel_rfl
noncomputable def u_check_φs : List (List Ev.D → Option Ev.R) := [u_value_φ, u_pairs_φ, u_least_pair_φ, u_parts_of_root_φ, u_check_square_φ, u_steps_φ, u_check_parts_φ, u_total_φ, u_times_φ, u_plus_φ, u_fraction_φ, u_root_φ, u_tower_φ, u_common_φ]
noncomputable def u_check_ms : MS := (sqK (sIte (kInv (kChn .le .le (fun _ τ => some (⟨.S, (.int 1)⟩, τ)) (kBlt .len (kCons (kVar 0) kNil)) (fun _ τ => some (⟨.S, (.int 8)⟩, τ)))) (sqK (fun _ _ => none) (fun ρ τ => some (.nx ρ τ))) (fun ρ τ => some (.nx ρ τ))) (sqK (sIte (kCmp .ne (kBlt .len (kCons (kVar 1) kNil)) (kBlt .len (kCons (kVar 0) kNil))) (sqK (fun _ _ => none) (fun ρ τ => some (.nx ρ τ))) (fun ρ τ => some (.nx ρ τ))) (fun ρ τ => some (.nx ρ τ))))
theorem u_check_ms_eq : u_check_ms = evSsK (Φof u_check_φs) (Ψof []) 1000 u_check_code := by kernel_rfl
noncomputable def u_check_φ : List Ev.D → Option Ev.R := runM 2 2 u_check_ms
/-! terms -/
abbrev u_terms_st : Stmt := topS 26
abbrev u_terms_N : List Str := ["rule", "first", "many", "found", "k"]
theorem u_terms_sc : FnScope u_terms_N ["rule", "first", "many"] (defScope u_terms_st) := ⟨rfl, rfl, rfl, by decide +kernel, rfl, by decide +kernel, by decide +kernel⟩
def u_terms_fs : List Str := ["check", "value", "pairs", "least_pair", "parts_of_root", "check_square", "steps", "check_parts", "total", "times", "plus", "fraction", "root", "tower", "common"]
def u_terms_cc : Cc := ⟨u_terms_N, defScope u_terms_st, cons, u_terms_fs, [], blts⟩
def u_terms_code : List S :=
   [.exp (.call 0 [(.var 0), (.var 1)]),
    .ite (.inv (.chn .le .le (.cst (.int 0)) (.var 2) (.cst (.int 60)))) [.nev] [],
    .set (.nm 3) (.blt .list [(.var 1)]),
    .whl (.cmp .lt (.blt .len [(.var 3)]) (.var 2)) [.app 3 (.call 8 [(.comp (.call 9 [(.idx (.var 0) (.var 4)), (.idx (.var 3) (.bin .sub (.bin .sub (.blt .len [(.var 3)]) (.cst (.int 1))) (.var 4)))]) (.nm 4) 1 [(.blt .len [(.var 0)])] [])])],
    .ret (.blt .tuple [(.slcH (.var 3) (.var 2))])]
theorem u_terms_comp : compSs 100 u_terms_cc (defBody u_terms_st) = some u_terms_code := by kernel_rfl
noncomputable def u_terms_φs : List (List Ev.D → Option Ev.R) := [u_check_φ, u_value_φ, u_pairs_φ, u_least_pair_φ, u_parts_of_root_φ, u_check_square_φ, u_steps_φ, u_check_parts_φ, u_total_φ, u_times_φ, u_plus_φ, u_fraction_φ, u_root_φ, u_tower_φ, u_common_φ]
noncomputable def u_terms_ms : MS := (sqK (sExp (kCall (Φof u_terms_φs 0) (kCons (kVar 0) (kCons (kVar 1) kNil)))) (sqK (sIte (kInv (kChn .le .le (fun _ τ => some (⟨.S, (.int 0)⟩, τ)) (kVar 2) (fun _ τ => some (⟨.S, (.int 60)⟩, τ)))) (sqK (fun _ _ => none) (fun ρ τ => some (.nx ρ τ))) (fun ρ τ => some (.nx ρ τ))) (sqK (sSet (.nm 3) (kBlt .list (kCons (kVar 1) kNil))) (sqK (whK (kCmp .lt (kBlt .len (kCons (kVar 3) kNil)) (kVar 2)) (sqK (sApp 3 (kCall (Φof u_terms_φs 8) (kCons (kComp (kCall (Φof u_terms_φs 9) (kCons (kIdx (kVar 0) (kVar 4)) (kCons (kIdx (kVar 3) (kBin .sub (kBin .sub (kBlt .len (kCons (kVar 3) kNil)) (fun _ τ => some (⟨.S, (.int 1)⟩, τ))) (kVar 4))) kNil))) (.nm 4) 1 (kCons (kBlt .len (kCons (kVar 0) kNil)) kNil) kNil) kNil))) (fun ρ τ => some (.nx ρ τ))) 1000) (sqK (sRet (kBlt .tuple (kCons (kSlcH (kVar 3) (kVar 2)) kNil))) (fun ρ τ => some (.nx ρ τ)))))))
theorem u_terms_ms_eq : u_terms_ms = evSsK (Φof u_terms_φs) (Ψof []) 1000 u_terms_code := by kernel_rfl
noncomputable def u_terms_φ : List Ev.D → Option Ev.R := runM 5 3 u_terms_ms
/-! _law_product -/
abbrev u__law_product_st : Stmt := topS 30
abbrev u__law_product_N : List Str := ["number", "one", "other"]
theorem u__law_product_sc : FnScope u__law_product_N ["number", "one", "other"] (defScope u__law_product_st) := ⟨rfl, rfl, rfl, by decide +kernel, rfl, by decide +kernel, by decide +kernel⟩
def u__law_product_fs : List Str := ["terms", "check", "value", "pairs", "least_pair", "parts_of_root", "check_square", "steps", "check_parts", "total", "times", "plus", "fraction", "root", "tower", "common"]
def u__law_product_cc : Cc := ⟨u__law_product_N, defScope u__law_product_st, cons, u__law_product_fs, [], blts⟩
def u__law_product_code : List S :=
   [.ret (.tup [(.bin .add (.bin .mul (.idx (.var 1) (.cst (.int 0))) (.idx (.var 2) (.cst (.int 0)))) (.bin .mul (.bin .mul (.var 0) (.idx (.var 1) (.cst (.int 1)))) (.idx (.var 2) (.cst (.int 1))))), (.bin .add (.bin .mul (.idx (.var 1) (.cst (.int 0))) (.idx (.var 2) (.cst (.int 1)))) (.bin .mul (.idx (.var 1) (.cst (.int 1))) (.idx (.var 2) (.cst (.int 0)))))])]
theorem u__law_product_comp : compSs 100 u__law_product_cc (defBody u__law_product_st) = some u__law_product_code := by kernel_rfl
noncomputable def u__law_product_φs : List (List Ev.D → Option Ev.R) := [u_terms_φ, u_check_φ, u_value_φ, u_pairs_φ, u_least_pair_φ, u_parts_of_root_φ, u_check_square_φ, u_steps_φ, u_check_parts_φ, u_total_φ, u_times_φ, u_plus_φ, u_fraction_φ, u_root_φ, u_tower_φ, u_common_φ]
noncomputable def u__law_product_ms : MS := (sqK (sRet (kTup (kCons (kBin .add (kBin .mul (kIdx (kVar 1) (fun _ τ => some (⟨.S, (.int 0)⟩, τ))) (kIdx (kVar 2) (fun _ τ => some (⟨.S, (.int 0)⟩, τ)))) (kBin .mul (kBin .mul (kVar 0) (kIdx (kVar 1) (fun _ τ => some (⟨.S, (.int 1)⟩, τ)))) (kIdx (kVar 2) (fun _ τ => some (⟨.S, (.int 1)⟩, τ))))) (kCons (kBin .add (kBin .mul (kIdx (kVar 1) (fun _ τ => some (⟨.S, (.int 0)⟩, τ))) (kIdx (kVar 2) (fun _ τ => some (⟨.S, (.int 1)⟩, τ)))) (kBin .mul (kIdx (kVar 1) (fun _ τ => some (⟨.S, (.int 1)⟩, τ))) (kIdx (kVar 2) (fun _ τ => some (⟨.S, (.int 0)⟩, τ))))) kNil)))) (fun ρ τ => some (.nx ρ τ)))
theorem u__law_product_ms_eq : u__law_product_ms = evSsK (Φof u__law_product_φs) (Ψof []) 1000 u__law_product_code := by kernel_rfl
noncomputable def u__law_product_φ : List Ev.D → Option Ev.R := runM 3 3 u__law_product_ms
/-! law -/
abbrev u_law_st : Stmt := topS 31
abbrev u_law_N : List Str := ["script", "d", "number", "whole", "again", "plus_v", "minus", "row", "told", "k", "j", "small", "y", "square", "line", "pair"]
theorem u_law_sc : FnScope u_law_N ["script"] (defScope u_law_st) := ⟨rfl, rfl, rfl, by decide +kernel, rfl, by decide +kernel, by decide +kernel⟩
def u_law_fs : List Str := ["_law_product", "terms", "check", "value", "pairs", "least_pair", "parts_of_root", "check_square", "steps", "check_parts", "total", "times", "plus", "fraction", "root", "tower", "common"]
def u_law_cc : Cc := ⟨u_law_N, defScope u_law_st, cons, u_law_fs, ["_law_take"], blts⟩
def u_law_code : List S :=
   [.set (.nm 2) (.bin .add (.cst (.int 2)) (.callT 0 1 [(.cst (.int 300))])),
    .ite (.cmp .eq (.bin .mul (.call 14 [(.var 2), (.cst (.int 2))]) (.call 14 [(.var 2), (.cst (.int 2))])) (.var 2)) [.set (.nm 2) (.bin .add (.var 2) (.cst (.int 1)))] [],
    .set (.tu [3, 4]) (.call 6 [(.var 2)]),
    .ite (.dis (.cmp .ne (.idx (.var 4) (.neg (.cst (.int 1)))) (.bin .mul (.cst (.int 2)) (.var 3))) (.dis (.cmp .ne (.blt .list [(.slcH (.var 4) (.neg (.cst (.int 1))))]) (.rev (.blt .list [(.slcH (.var 4) (.neg (.cst (.int 1))))]))) (.cmp .gt (.blt .max [(.var 4)]) (.bin .mul (.cst (.int 2)) (.var 3))))) [.ret (.cst (.bool false))] [],
    .set (.nm 5) (.call 5 [(.var 2), (.cst (.int 1))]),
    .set (.nm 6) (.call 5 [(.var 2), (.neg (.cst (.int 1)))]),
    .ite (.cmp .ne (.isN (.var 6)) (.cmp .eq (.bin .mod (.blt .int [(.blt .len [(.var 4)])]) (.cst (.int 2))) (.cst (.int 0)))) [.ret (.cst (.bool false))] [],
    .ite (.notN (.var 6)) [.ite (.dis (.cmp .ne (.call 3 [(.tup [(.cst (.int 1)), (.cst (.int 0)), (.bin .sub (.cst (.int 0)) (.var 2))]), (.idx (.var 6) (.cst (.int 0))), (.idx (.var 6) (.cst (.int 1)))]) (.neg (.cst (.int 1)))) (.cmp .ne (.call 0 [(.var 2), (.var 6), (.var 6)]) (.var 5))) [.ret (.cst (.bool false))] [],
    .ite (.cmp .le (.idx (.call 0 [(.var 2), (.var 6), (.var 5)]) (.cst (.int 0))) (.idx (.var 6) (.cst (.int 0)))) [.ret (.cst (.bool false))] []] [],
    .set (.nm 7) (.call 8 [(.bin .add (.tup [(.var 3)]) (.slcH (.var 4) (.neg (.cst (.int 1)))))]),
    .ite (.cmp .ne (.ite (.notN (.var 6)) (.var 6) (.var 5)) (.idx (.var 7) (.neg (.cst (.int 1))))) [.ret (.cst (.bool false))] [],
    .set (.nm 8) (.call 4 [(.var 2), (.cst (.int 6))]),
    .for_ (.nm 9) 1 [(.cst (.int 6))] [.ite (.cmp .ne (.call 3 [(.tup [(.cst (.int 1)), (.cst (.int 0)), (.bin .sub (.cst (.int 0)) (.var 2))]), (.idx (.idx (.var 8) (.var 9)) (.cst (.int 0))), (.idx (.idx (.var 8) (.var 9)) (.cst (.int 1)))]) (.cst (.int 1))) [.ret (.cst (.bool false))] [],
    .for_ (.nm 10) 1 [(.bin .sub (.bin .sub (.cst (.int 6)) (.var 9)) (.cst (.int 1)))] [.ite (.cmp .ne (.call 0 [(.var 2), (.idx (.var 8) (.var 9)), (.idx (.var 8) (.var 10))]) (.idx (.var 8) (.bin .add (.bin .add (.var 9) (.var 10)) (.cst (.int 1))))) [.ret (.cst (.bool false))] []]],
    .set (.nm 11) (.lst []),
    .for_ (.nm 12) 2 [(.cst (.int 1)), (.cst (.int 60))] [.set (.nm 13) (.bin .add (.bin .mul (.bin .mul (.var 2) (.var 12)) (.var 12)) (.cst (.int 1))),
    .ite (.cmp .eq (.bin .mul (.call 14 [(.var 13), (.cst (.int 2))]) (.call 14 [(.var 13), (.cst (.int 2))])) (.var 13)) [.app 11 (.tup [(.call 14 [(.var 13), (.cst (.int 2))]), (.var 12)])] []],
    .ite (.cmp .ne (.var 11) (.comp (.var 15) (.nm 15) 0 [(.var 8)] [(.cmp .lt (.idx (.var 15) (.cst (.int 1))) (.cst (.int 60)))])) [.ret (.cst (.bool false))] [],
    .set (.nm 14) (.call 1 [(.tup [(.tup [(.bin .mul (.cst (.int 2)) (.idx (.var 5) (.cst (.int 0)))), (.cst (.int 1))]), (.tup [(.neg (.cst (.int 1))), (.cst (.int 1))])]), (.tup [(.tup [(.cst (.int 1)), (.cst (.int 1))]), (.tup [(.idx (.var 5) (.cst (.int 0))), (.cst (.int 1))])]), (.cst (.int 7))]),
    .ret (.cmp .eq (.slcL (.var 14) (.cst (.int 1))) (.blt .tuple [(.comp (.tup [(.idx (.var 15) (.cst (.int 0))), (.cst (.int 1))]) (.nm 15) 0 [(.var 8)] [])]))]
theorem u_law_comp : compSs 100 u_law_cc ((defBody u_law_st).drop 1) = some u_law_code := by kernel_rfl
noncomputable def u_law_φs : List (List Ev.D → Option Ev.R) := [u__law_product_φ, u_terms_φ, u_check_φ, u_value_φ, u_pairs_φ, u_least_pair_φ, u_parts_of_root_φ, u_check_square_φ, u_steps_φ, u_check_parts_φ, u_total_φ, u_times_φ, u_plus_φ, u_fraction_φ, u_root_φ, u_tower_φ, u_common_φ]
noncomputable def law_ms : MS := (sqK (sIte (kCmp .eq (kBin .mul (kCall (Φof u_law_φs 14) (kCons (kVar 2) (kCons (fun _ τ => some (⟨.S, (.int 2)⟩, τ)) kNil))) (kCall (Φof u_law_φs 14) (kCons (kVar 2) (kCons (fun _ τ => some (⟨.S, (.int 2)⟩, τ)) kNil)))) (kVar 2)) (sqK (sSet (.nm 2) (kBin .add (kVar 2) (fun _ τ => some (⟨.S, (.int 1)⟩, τ)))) (fun ρ τ => some (.nx ρ τ))) (fun ρ τ => some (.nx ρ τ))) (sqK (sSet (.tu [(3), (4)]) (kCall (Φof u_law_φs 6) (kCons (kVar 2) kNil))) (sqK (sIte (kDis (kCmp .ne (kIdx (kVar 4) (kNeg (fun _ τ => some (⟨.S, (.int 1)⟩, τ)))) (kBin .mul (fun _ τ => some (⟨.S, (.int 2)⟩, τ)) (kVar 3))) (kDis (kCmp .ne (kBlt .list (kCons (kSlcH (kVar 4) (kNeg (fun _ τ => some (⟨.S, (.int 1)⟩, τ)))) kNil)) (kRev (kBlt .list (kCons (kSlcH (kVar 4) (kNeg (fun _ τ => some (⟨.S, (.int 1)⟩, τ)))) kNil)))) (kCmp .gt (kBlt .max (kCons (kVar 4) kNil)) (kBin .mul (fun _ τ => some (⟨.S, (.int 2)⟩, τ)) (kVar 3))))) (sqK (sRet (fun _ τ => some (⟨.S, (.bool false)⟩, τ))) (fun ρ τ => some (.nx ρ τ))) (fun ρ τ => some (.nx ρ τ))) (sqK (sSet (.nm 5) (kCall (Φof u_law_φs 5) (kCons (kVar 2) (kCons (fun _ τ => some (⟨.S, (.int 1)⟩, τ)) kNil)))) (sqK (sSet (.nm 6) (kCall (Φof u_law_φs 5) (kCons (kVar 2) (kCons (kNeg (fun _ τ => some (⟨.S, (.int 1)⟩, τ))) kNil)))) (sqK (sIte (kCmp .ne (kIsN (kVar 6)) (kCmp .eq (kBin .mod (kBlt .int (kCons (kBlt .len (kCons (kVar 4) kNil)) kNil)) (fun _ τ => some (⟨.S, (.int 2)⟩, τ))) (fun _ τ => some (⟨.S, (.int 0)⟩, τ)))) (sqK (sRet (fun _ τ => some (⟨.S, (.bool false)⟩, τ))) (fun ρ τ => some (.nx ρ τ))) (fun ρ τ => some (.nx ρ τ))) (sqK (sIte (kNotN (kVar 6)) (sqK (sIte (kDis (kCmp .ne (kCall (Φof u_law_φs 3) (kCons (kTup (kCons (fun _ τ => some (⟨.S, (.int 1)⟩, τ)) (kCons (fun _ τ => some (⟨.S, (.int 0)⟩, τ)) (kCons (kBin .sub (fun _ τ => some (⟨.S, (.int 0)⟩, τ)) (kVar 2)) kNil)))) (kCons (kIdx (kVar 6) (fun _ τ => some (⟨.S, (.int 0)⟩, τ))) (kCons (kIdx (kVar 6) (fun _ τ => some (⟨.S, (.int 1)⟩, τ))) kNil)))) (kNeg (fun _ τ => some (⟨.S, (.int 1)⟩, τ)))) (kCmp .ne (kCall (Φof u_law_φs 0) (kCons (kVar 2) (kCons (kVar 6) (kCons (kVar 6) kNil)))) (kVar 5))) (sqK (sRet (fun _ τ => some (⟨.S, (.bool false)⟩, τ))) (fun ρ τ => some (.nx ρ τ))) (fun ρ τ => some (.nx ρ τ))) (sqK (sIte (kCmp .le (kIdx (kCall (Φof u_law_φs 0) (kCons (kVar 2) (kCons (kVar 6) (kCons (kVar 5) kNil)))) (fun _ τ => some (⟨.S, (.int 0)⟩, τ))) (kIdx (kVar 6) (fun _ τ => some (⟨.S, (.int 0)⟩, τ)))) (sqK (sRet (fun _ τ => some (⟨.S, (.bool false)⟩, τ))) (fun ρ τ => some (.nx ρ τ))) (fun ρ τ => some (.nx ρ τ))) (fun ρ τ => some (.nx ρ τ)))) (fun ρ τ => some (.nx ρ τ))) (sqK (sSet (.nm 7) (kCall (Φof u_law_φs 8) (kCons (kBin .add (kTup (kCons (kVar 3) kNil)) (kSlcH (kVar 4) (kNeg (fun _ τ => some (⟨.S, (.int 1)⟩, τ))))) kNil))) (sqK (sIte (kCmp .ne (kIte (kNotN (kVar 6)) (kVar 6) (kVar 5)) (kIdx (kVar 7) (kNeg (fun _ τ => some (⟨.S, (.int 1)⟩, τ))))) (sqK (sRet (fun _ τ => some (⟨.S, (.bool false)⟩, τ))) (fun ρ τ => some (.nx ρ τ))) (fun ρ τ => some (.nx ρ τ))) (sqK (sSet (.nm 8) (kCall (Φof u_law_φs 4) (kCons (kVar 2) (kCons (fun _ τ => some (⟨.S, (.int 6)⟩, τ)) kNil)))) (sqK (sFor (.nm 9) 1 (kCons (fun _ τ => some (⟨.S, (.int 6)⟩, τ)) kNil) (sqK (sIte (kCmp .ne (kCall (Φof u_law_φs 3) (kCons (kTup (kCons (fun _ τ => some (⟨.S, (.int 1)⟩, τ)) (kCons (fun _ τ => some (⟨.S, (.int 0)⟩, τ)) (kCons (kBin .sub (fun _ τ => some (⟨.S, (.int 0)⟩, τ)) (kVar 2)) kNil)))) (kCons (kIdx (kIdx (kVar 8) (kVar 9)) (fun _ τ => some (⟨.S, (.int 0)⟩, τ))) (kCons (kIdx (kIdx (kVar 8) (kVar 9)) (fun _ τ => some (⟨.S, (.int 1)⟩, τ))) kNil)))) (fun _ τ => some (⟨.S, (.int 1)⟩, τ))) (sqK (sRet (fun _ τ => some (⟨.S, (.bool false)⟩, τ))) (fun ρ τ => some (.nx ρ τ))) (fun ρ τ => some (.nx ρ τ))) (sqK (sFor (.nm 10) 1 (kCons (kBin .sub (kBin .sub (fun _ τ => some (⟨.S, (.int 6)⟩, τ)) (kVar 9)) (fun _ τ => some (⟨.S, (.int 1)⟩, τ))) kNil) (sqK (sIte (kCmp .ne (kCall (Φof u_law_φs 0) (kCons (kVar 2) (kCons (kIdx (kVar 8) (kVar 9)) (kCons (kIdx (kVar 8) (kVar 10)) kNil)))) (kIdx (kVar 8) (kBin .add (kBin .add (kVar 9) (kVar 10)) (fun _ τ => some (⟨.S, (.int 1)⟩, τ))))) (sqK (sRet (fun _ τ => some (⟨.S, (.bool false)⟩, τ))) (fun ρ τ => some (.nx ρ τ))) (fun ρ τ => some (.nx ρ τ))) (fun ρ τ => some (.nx ρ τ)))) (fun ρ τ => some (.nx ρ τ))))) (sqK (sSet (.nm 11) (kLst kNil)) (sqK (sFor (.nm 12) 2 (kCons (fun _ τ => some (⟨.S, (.int 1)⟩, τ)) (kCons (fun _ τ => some (⟨.S, (.int 60)⟩, τ)) kNil)) (sqK (sSet (.nm 13) (kBin .add (kBin .mul (kBin .mul (kVar 2) (kVar 12)) (kVar 12)) (fun _ τ => some (⟨.S, (.int 1)⟩, τ)))) (sqK (sIte (kCmp .eq (kBin .mul (kCall (Φof u_law_φs 14) (kCons (kVar 13) (kCons (fun _ τ => some (⟨.S, (.int 2)⟩, τ)) kNil))) (kCall (Φof u_law_φs 14) (kCons (kVar 13) (kCons (fun _ τ => some (⟨.S, (.int 2)⟩, τ)) kNil)))) (kVar 13)) (sqK (sApp 11 (kTup (kCons (kCall (Φof u_law_φs 14) (kCons (kVar 13) (kCons (fun _ τ => some (⟨.S, (.int 2)⟩, τ)) kNil))) (kCons (kVar 12) kNil)))) (fun ρ τ => some (.nx ρ τ))) (fun ρ τ => some (.nx ρ τ))) (fun ρ τ => some (.nx ρ τ))))) (sqK (sIte (kCmp .ne (kVar 11) (kComp (kVar 15) (.nm 15) 0 (kCons (kVar 8) kNil) (kCons (kCmp .lt (kIdx (kVar 15) (fun _ τ => some (⟨.S, (.int 1)⟩, τ))) (fun _ τ => some (⟨.S, (.int 60)⟩, τ))) kNil))) (sqK (sRet (fun _ τ => some (⟨.S, (.bool false)⟩, τ))) (fun ρ τ => some (.nx ρ τ))) (fun ρ τ => some (.nx ρ τ))) (sqK (sSet (.nm 14) (kCall (Φof u_law_φs 1) (kCons (kTup (kCons (kTup (kCons (kBin .mul (fun _ τ => some (⟨.S, (.int 2)⟩, τ)) (kIdx (kVar 5) (fun _ τ => some (⟨.S, (.int 0)⟩, τ)))) (kCons (fun _ τ => some (⟨.S, (.int 1)⟩, τ)) kNil))) (kCons (kTup (kCons (kNeg (fun _ τ => some (⟨.S, (.int 1)⟩, τ))) (kCons (fun _ τ => some (⟨.S, (.int 1)⟩, τ)) kNil))) kNil))) (kCons (kTup (kCons (kTup (kCons (fun _ τ => some (⟨.S, (.int 1)⟩, τ)) (kCons (fun _ τ => some (⟨.S, (.int 1)⟩, τ)) kNil))) (kCons (kTup (kCons (kIdx (kVar 5) (fun _ τ => some (⟨.S, (.int 0)⟩, τ))) (kCons (fun _ τ => some (⟨.S, (.int 1)⟩, τ)) kNil))) kNil))) (kCons (fun _ τ => some (⟨.S, (.int 7)⟩, τ)) kNil))))) (sqK (sRet (kCmp .eq (kSlcL (kVar 14) (fun _ τ => some (⟨.S, (.int 1)⟩, τ))) (kBlt .tuple (kCons (kComp (kTup (kCons (kIdx (kVar 15) (fun _ τ => some (⟨.S, (.int 0)⟩, τ))) (kCons (fun _ τ => some (⟨.S, (.int 1)⟩, τ)) kNil))) (.nm 15) 0 (kCons (kVar 8) kNil) kNil) kNil)))) (fun ρ τ => some (.nx ρ τ))))))))))))))))))
theorem law_ms_eq : law_ms = evSsK (Φof u_law_φs) (Ψof [takeF]) 1000 (u_law_code.drop 1) := by kernel_rfl
/-! the tape -/
abbrev beg_st : Stmt := topS 28
theorem beg_sc : FnScope ["script", "seed", "cell"] ["script"] (defScope beg_st) := ⟨rfl, rfl, rfl, by decide +kernel, rfl, by decide +kernel, by decide +kernel⟩
abbrev tak_st : Stmt := topS 29
theorem tak_sc : FnScope ["d", "many", "small", "digit"] ["d", "many"] (defScope tak_st) := ⟨rfl, rfl, rfl, by decide +kernel, rfl, by decide +kernel, by decide +kernel⟩
section
variable {P : Program} {w : World} {K : PySem.W.Frag} {mg : Str → Option Value} {base : Heap}
theorem beg_ok {f : Addr} {fd : FuncData} (F : Fun K "_law_begin" "_law_begin" beg_st f fd) (mi : mg "int" = none) (ml : mg "list" = none) : FnOk P w K mg base CX0 1 f fd ["script"] (spBegin K) := by
  refine F.ok beg_sc (fun vs H Q E h => ?_) (fun cdv A outer s H vs Q E hr h => ⟨tBegin K, ?_, begin_run rfl h⟩)
  · obtain ⟨a, ns, rfl, _⟩ := h
    rfl
  · exact pss_cons (ps_set (i := 1) beg_sc.nd rfl (.inl rfl) pe_int)
      (pss_cons (ps_for PassesOwn.never rfl (pi_list (pv 0)) (pg_name (i := 2) beg_sc.nd rfl (.inl rfl)) (pss_one (ps_set (i := 1) beg_sc.nd rfl (.inl rfl)
        (pe_op op_modN (pe_op op_add (pe_op op_add (pe_op op_mul (pv 1) pe_int) (pe_op op_modN (pe_callTy call_int1 (by rfl) mi PyProof.Rows.boot_int (pa_cons (pv 2) pa_nil)) pe_int)) pe_int) pe_int))))
      (pss_one (ps_ret (pe_lst (pa_cons (pe_callTy call_list_of (by rfl) ml PyProof.Rows.boot_list (pa_cons (pv 0) pa_nil)) (pa_cons pe_int (pa_cons pe_int (pa_cons (pv 1) pa_nil))))))))
theorem tak_ok {f : Addr} {fd : FuncData} (F : Fun K "_law_take" "_law_take" tak_st f fd) (mi : mg "int" = none) (ma : mg "abs" = none) (ml : mg "len" = none) : FnOk P w K mg base CX0 1 f fd ["d", "many"] (spT K takeF) := by
  refine F.ok tak_sc (fun vs H Q E h => ?_) (fun cdv A outer s H vs Q E hr h => ⟨tTake K, ?_, ?_⟩)
  · obtain ⟨a, b, vs', ds, τ, r, τ', rfl, _, h1, h2, _⟩ := h
    unfold takeF at h2
    split at h2
    · show vs'.length + 1 = 2
      rw [h1.length]
      rfl
    · cases h2
  · have ix : ∀ {X : Cx} {a : Expr} {ta : TE} {i : Int} {k : Nat} {p q : Pos}, PE X a ta → PE X (.Subscript a (.Constant (.int i) k p) q) (tOp (rIx X.K) ta (tC (.int i))) := fun h => pe_ix ix_seq h pe_int (fun _ _ => rfl)
    exact pss_cons (ps_if (PW.pt (pw_and (pt_cmpR op_eq (ix (pv 0)) pe_int (nomark _)) (pw_and1 (pt_cmpR op_lt (ix (pv 0)) (pe_callB call_len_seq (by rfl) ml PySem.boot_len (pa_cons (ix (pv 0)) pa_nil)) (nomark _)))))
        (pss_cons (ps_asg (pe_callB call_abs (by rfl) ma PyProof.Rows.boot_abs (pa_cons (pe_callTy call_int1 (by rfl) mi PyProof.Rows.boot_int (pa_cons (pe_ix ix_seq (ix (pv 0)) (ix (pv 0)) (fun _ _ => rfl)) pa_nil)) pa_nil)) (pg_sub (pv 0) pe_int set_list))
        (pss_cons (ps_asg (pe_op op_add (ix (pv 0)) pe_int) (pg_sub (pv 0) pe_int set_list))
        (pss_one (ps_if (pt_cmpR op_lt (ix (pv 0)) (pe_op op_pow pe_int pe_int) (nomark _))
          (pss_cons (ps_set (i := 2) tak_sc.nd rfl (.inl rfl) (pe_callTy call_int1 (by rfl) mi PyProof.Rows.boot_int (pa_cons (ix (pv 0)) pa_nil)))
          (pss_cons (ps_asg pe_int (pg_sub (pv 0) pe_int set_list))
          (pss_one (ps_ret (pe_op op_modN (pv 2) (pv 1)))))) pss_nil)))) pss_nil)
      (pss_cons (ps_if (pt_cmpR op_gt (ix (pv 0)) pe_int (nomark _))
        (pss_cons (ps_set (i := 3) tak_sc.nd rfl (.inl rfl) (pe_op op_modN (pe_callTy call_int1 (by rfl) mi PyProof.Rows.boot_int (pa_cons (ix (pv 0)) pa_nil)) (pv 1)))
        (pss_cons (ps_asg (pe_op op_fdivN (pe_callTy call_int1 (by rfl) mi PyProof.Rows.boot_int (pa_cons (ix (pv 0)) pa_nil)) (pv 1)) (pg_sub (pv 0) pe_int set_list))
        (pss_one (ps_ret (pv 3))))) pss_nil)
      (pss_cons (ps_asg (pe_op op_modN (pe_callTy call_int1 (by rfl) mi PyProof.Rows.boot_int (pa_cons (pe_op op_add (pe_op op_mul (ix (pv 0)) pe_int) pe_int) pa_nil)) pe_int) (pg_sub (pv 0) pe_int set_list))
      (pss_one (ps_ret (pe_op op_modN (pe_callTy call_int1 (by rfl) mi PyProof.Rows.boot_int (pa_cons (pe_op op_fdivN (ix (pv 0)) pe_int) pa_nil)) (pv 1))))))
  · obtain ⟨a, b, vs', ds, τ, r, τ', rfl, ht, h1, h2, hcl, hQ⟩ := h
    unfold takeF at h2
    split at h2
    · rename_i m
      split at h2
      · rename_i hm
        cases h2
        obtain ⟨x, r, rfl, e2, rfl⟩ := h1
        have e2' : x = V.int m := e2
        subst e2'
        exact take_run ht hm fun H' s1 t1 => hQ _ H' s1 t1 rfl
      · cases h2
    · cases h2
end
/-! the law, from what its statements come to -/
def LawHolds : Prop := ∀ (ns : List Int) (seed : Int), ∃ M τ', evSs (Φof u_law_φs) (Ψof [takeF]) M (.un :: .tp :: List.replicate 14 .un) ⟨ns, 0, 0, seed⟩ u_law_code = some (.rt ⟨.S, .bool true⟩ τ')
theorem all_mk {l : PySem.W.OpenLaw} {w : World} {K : PySem.W.Frag} {h : Heap} {mg : Str → Option Value} {fa f0 f1 f2 f3 f4 f5 f6 f7 f8 f9 f10 f11 f12 f13 f14 f15 f16 f17 f18 f19 : Addr} (hL : LawHolds) (X : K.In h) (G : h.Ns mainGlobals mg) (hfa : mg "law" = some (.ref fa))
    {od0 an0 od1 an1 od2 an2 od3 an3 od4 an4 od5 an5 od6 an6 od7 an7 od8 an8 od9 an9 od10 an10 od11 an11 od12 an12 od13 an13 od14 an14 od15 an15 od16 an16 od17 an17 od18 an18 od19 an19 : Option Addr} {sl0 sl1 sl2 sl3 sl4 sl5 sl6 sl7 sl8 sl9 sl10 sl11 sl12 sl13 sl14 sl15 sl16 sl17 sl18 sl19 : Array (Option Value)} {oc0 kV0 dc0 pm0 cd0 ct0 oc1 kV1 dc1 pm1 cd1 ct1 oc2 kV2 dc2 pm2 cd2 ct2 oc3 kV3 dc3 pm3 cd3 ct3 oc4 kV4 dc4 pm4 cd4 ct4 oc5 kV5 dc5 pm5 cd5 ct5 oc6 kV6 dc6 pm6 cd6 ct6 oc7 kV7 dc7 pm7 cd7 ct7 oc8 kV8 dc8 pm8 cd8 ct8 oc9 kV9 dc9 pm9 cd9 ct9 oc10 kV10 dc10 pm10 cd10 ct10 oc11 kV11 dc11 pm11 cd11 ct11 oc12 kV12 dc12 pm12 cd12 ct12 oc13 kV13 dc13 pm13 cd13 ct13 oc14 kV14 dc14 pm14 cd14 ct14 oc15 kV15 dc15 pm15 cd15 ct15 oc16 kV16 dc16 pm16 cd16 ct16 oc17 kV17 dc17 pm17 cd17 ct17 oc18 kV18 dc18 pm18 cd18 ct18 oc19 kV19 dc19 pm19 cd19 ct19 : Value}
    (a0 : PySem.W.nsIn K mainGlobals "common" = some (some (.ref f0))) (l0 : K.lookup f0 = some ⟨oc0, od0, .func (PySem.W.fnOf "common" "common" (defArgs u_common_st) (defBody u_common_st) (defScope u_common_st) .none kV0 dc0 pm0 an0 cd0 ct0), sl0⟩) (c0 : PySem.W.codeIn K cd0 "common" = true) (k0 : PySem.W.keepIn K (.ref f0) = true)
    (a1 : PySem.W.nsIn K mainGlobals "tower" = some (some (.ref f1))) (l1 : K.lookup f1 = some ⟨oc1, od1, .func (PySem.W.fnOf "tower" "tower" (defArgs u_tower_st) (defBody u_tower_st) (defScope u_tower_st) .none kV1 dc1 pm1 an1 cd1 ct1), sl1⟩) (c1 : PySem.W.codeIn K cd1 "tower" = true) (k1 : PySem.W.keepIn K (.ref f1) = true)
    (a2 : PySem.W.nsIn K mainGlobals "root" = some (some (.ref f2))) (l2 : K.lookup f2 = some ⟨oc2, od2, .func (PySem.W.fnOf "root" "root" (defArgs u_root_st) (defBody u_root_st) (defScope u_root_st) .none kV2 dc2 pm2 an2 cd2 ct2), sl2⟩) (c2 : PySem.W.codeIn K cd2 "root" = true) (k2 : PySem.W.keepIn K (.ref f2) = true)
    (a3 : PySem.W.nsIn K mainGlobals "fraction" = some (some (.ref f3))) (l3 : K.lookup f3 = some ⟨oc3, od3, .func (PySem.W.fnOf "fraction" "fraction" (defArgs u_fraction_st) (defBody u_fraction_st) (defScope u_fraction_st) .none kV3 dc3 pm3 an3 cd3 ct3), sl3⟩) (c3 : PySem.W.codeIn K cd3 "fraction" = true) (k3 : PySem.W.keepIn K (.ref f3) = true)
    (a4 : PySem.W.nsIn K mainGlobals "plus" = some (some (.ref f4))) (l4 : K.lookup f4 = some ⟨oc4, od4, .func (PySem.W.fnOf "plus" "plus" (defArgs u_plus_st) (defBody u_plus_st) (defScope u_plus_st) .none kV4 dc4 pm4 an4 cd4 ct4), sl4⟩) (c4 : PySem.W.codeIn K cd4 "plus" = true) (k4 : PySem.W.keepIn K (.ref f4) = true)
    (a5 : PySem.W.nsIn K mainGlobals "times" = some (some (.ref f5))) (l5 : K.lookup f5 = some ⟨oc5, od5, .func (PySem.W.fnOf "times" "times" (defArgs u_times_st) (defBody u_times_st) (defScope u_times_st) .none kV5 dc5 pm5 an5 cd5 ct5), sl5⟩) (c5 : PySem.W.codeIn K cd5 "times" = true) (k5 : PySem.W.keepIn K (.ref f5) = true)
    (a6 : PySem.W.nsIn K mainGlobals "total" = some (some (.ref f6))) (l6 : K.lookup f6 = some ⟨oc6, od6, .func (PySem.W.fnOf "total" "total" (defArgs u_total_st) (defBody u_total_st) (defScope u_total_st) .none kV6 dc6 pm6 an6 cd6 ct6), sl6⟩) (c6 : PySem.W.codeIn K cd6 "total" = true) (k6 : PySem.W.keepIn K (.ref f6) = true)
    (a7 : PySem.W.nsIn K mainGlobals "check_parts" = some (some (.ref f7))) (l7 : K.lookup f7 = some ⟨oc7, od7, .func (PySem.W.fnOf "check_parts" "check_parts" (defArgs u_check_parts_st) (defBody u_check_parts_st) (defScope u_check_parts_st) .none kV7 dc7 pm7 an7 cd7 ct7), sl7⟩) (c7 : PySem.W.codeIn K cd7 "check_parts" = true) (k7 : PySem.W.keepIn K (.ref f7) = true)
    (a8 : PySem.W.nsIn K mainGlobals "steps" = some (some (.ref f8))) (l8 : K.lookup f8 = some ⟨oc8, od8, .func (PySem.W.fnOf "steps" "steps" (defArgs u_steps_st) (defBody u_steps_st) (defScope u_steps_st) .none kV8 dc8 pm8 an8 cd8 ct8), sl8⟩) (c8 : PySem.W.codeIn K cd8 "steps" = true) (k8 : PySem.W.keepIn K (.ref f8) = true)
    (a9 : PySem.W.nsIn K mainGlobals "check_square" = some (some (.ref f9))) (l9 : K.lookup f9 = some ⟨oc9, od9, .func (PySem.W.fnOf "check_square" "check_square" (defArgs u_check_square_st) (defBody u_check_square_st) (defScope u_check_square_st) .none kV9 dc9 pm9 an9 cd9 ct9), sl9⟩) (c9 : PySem.W.codeIn K cd9 "check_square" = true) (k9 : PySem.W.keepIn K (.ref f9) = true)
    (a10 : PySem.W.nsIn K mainGlobals "parts_of_root" = some (some (.ref f10))) (l10 : K.lookup f10 = some ⟨oc10, od10, .func (PySem.W.fnOf "parts_of_root" "parts_of_root" (defArgs u_parts_of_root_st) (defBody u_parts_of_root_st) (defScope u_parts_of_root_st) .none kV10 dc10 pm10 an10 cd10 ct10), sl10⟩) (c10 : PySem.W.codeIn K cd10 "parts_of_root" = true) (k10 : PySem.W.keepIn K (.ref f10) = true)
    (a11 : PySem.W.nsIn K mainGlobals "least_pair" = some (some (.ref f11))) (l11 : K.lookup f11 = some ⟨oc11, od11, .func (PySem.W.fnOf "least_pair" "least_pair" (defArgs u_least_pair_st) (defBody u_least_pair_st) (defScope u_least_pair_st) .none kV11 dc11 pm11 an11 cd11 ct11), sl11⟩) (c11 : PySem.W.codeIn K cd11 "least_pair" = true) (k11 : PySem.W.keepIn K (.ref f11) = true)
    (a12 : PySem.W.nsIn K mainGlobals "pairs" = some (some (.ref f12))) (l12 : K.lookup f12 = some ⟨oc12, od12, .func (PySem.W.fnOf "pairs" "pairs" (defArgs u_pairs_st) (defBody u_pairs_st) (defScope u_pairs_st) .none kV12 dc12 pm12 an12 cd12 ct12), sl12⟩) (c12 : PySem.W.codeIn K cd12 "pairs" = true) (k12 : PySem.W.keepIn K (.ref f12) = true)
    (a13 : PySem.W.nsIn K mainGlobals "value" = some (some (.ref f13))) (l13 : K.lookup f13 = some ⟨oc13, od13, .func (PySem.W.fnOf "value" "value" (defArgs u_value_st) (defBody u_value_st) (defScope u_value_st) .none kV13 dc13 pm13 an13 cd13 ct13), sl13⟩) (c13 : PySem.W.codeIn K cd13 "value" = true) (k13 : PySem.W.keepIn K (.ref f13) = true)
    (a14 : PySem.W.nsIn K mainGlobals "check" = some (some (.ref f14))) (l14 : K.lookup f14 = some ⟨oc14, od14, .func (PySem.W.fnOf "check" "check" (defArgs u_check_st) (defBody u_check_st) (defScope u_check_st) .none kV14 dc14 pm14 an14 cd14 ct14), sl14⟩) (c14 : PySem.W.codeIn K cd14 "check" = true) (k14 : PySem.W.keepIn K (.ref f14) = true)
    (a15 : PySem.W.nsIn K mainGlobals "terms" = some (some (.ref f15))) (l15 : K.lookup f15 = some ⟨oc15, od15, .func (PySem.W.fnOf "terms" "terms" (defArgs u_terms_st) (defBody u_terms_st) (defScope u_terms_st) .none kV15 dc15 pm15 an15 cd15 ct15), sl15⟩) (c15 : PySem.W.codeIn K cd15 "terms" = true) (k15 : PySem.W.keepIn K (.ref f15) = true)
    (a16 : PySem.W.nsIn K mainGlobals "_law_product" = some (some (.ref f16))) (l16 : K.lookup f16 = some ⟨oc16, od16, .func (PySem.W.fnOf "_law_product" "_law_product" (defArgs u__law_product_st) (defBody u__law_product_st) (defScope u__law_product_st) .none kV16 dc16 pm16 an16 cd16 ct16), sl16⟩) (c16 : PySem.W.codeIn K cd16 "_law_product" = true) (k16 : PySem.W.keepIn K (.ref f16) = true)
    (a17 : PySem.W.nsIn K mainGlobals "_law_begin" = some (some (.ref f17))) (l17 : K.lookup f17 = some ⟨oc17, od17, .func (PySem.W.fnOf "_law_begin" "_law_begin" (defArgs beg_st) (defBody beg_st) (defScope beg_st) .none kV17 dc17 pm17 an17 cd17 ct17), sl17⟩) (c17 : PySem.W.codeIn K cd17 "_law_begin" = true) (k17 : PySem.W.keepIn K (.ref f17) = true)
    (a18 : PySem.W.nsIn K mainGlobals "_law_take" = some (some (.ref f18))) (l18 : K.lookup f18 = some ⟨oc18, od18, .func (PySem.W.fnOf "_law_take" "_law_take" (defArgs tak_st) (defBody tak_st) (defScope tak_st) .none kV18 dc18 pm18 an18 cd18 ct18), sl18⟩) (c18 : PySem.W.codeIn K cd18 "_law_take" = true) (k18 : PySem.W.keepIn K (.ref f18) = true)
    (a19 : PySem.W.nsIn K mainGlobals "law" = some (some (.ref f19))) (l19 : K.lookup f19 = some ⟨oc19, od19, .func (PySem.W.fnOf "law" "law" (defArgs u_law_st) (defBody u_law_st) (defScope u_law_st) .none kV19 dc19 pm19 an19 cd19 ct19), sl19⟩) (c19 : PySem.W.codeIn K cd19 "law" = true) (k19 : PySem.W.keepIn K (.ref f19) = true)
    (z_abs : PySem.W.nsIn K mainGlobals "abs" = some none)
    (z_any : PySem.W.nsIn K mainGlobals "any" = some none)
    (z_int : PySem.W.nsIn K mainGlobals "int" = some none)
    (z_len : PySem.W.nsIn K mainGlobals "len" = some none)
    (z_list : PySem.W.nsIn K mainGlobals "list" = some none)
    (z_max : PySem.W.nsIn K mainGlobals "max" = some none)
    (z_min : PySem.W.nsIn K mainGlobals "min" = some none)
    (z_range : PySem.W.nsIn K mainGlobals "range" = some none)
    (z_tuple : PySem.W.nsIn K mainGlobals "tuple" = some none)
    {t_MOST_DEPTH : Tok} (q_MOST_DEPTH : PySem.W.nsIn K mainGlobals "MOST_DEPTH" = some (some (.int 8 t_MOST_DEPTH)))
    {t_MOST_PARTS : Tok} (q_MOST_PARTS : PySem.W.nsIn K mainGlobals "MOST_PARTS" = some (some (.int 60 t_MOST_PARTS)))
    {t_MOST_TERMS : Tok} (q_MOST_TERMS : PySem.W.nsIn K mainGlobals "MOST_TERMS" = some (some (.int 60 t_MOST_TERMS)))
    {g_ZERO : Addr} {n_ZERO : Nat} {o1_ZERO : Option Addr} {o2_ZERO : Array (Option Value)} {t0_ZERO : Tok} {t1_ZERO : Tok} (q_ZERO : PySem.W.nsIn K mainGlobals "ZERO" = some (some (.ref g_ZERO))) (r_ZERO : K.lookup g_ZERO = some ⟨.type "tuple", o1_ZERO, .seq #[.int 0 t0_ZERO, .int 1 t1_ZERO] n_ZERO, o2_ZERO⟩)
    : ∃ fd : FuncData, (∀ (s : Shared) (v : Value), BindsTo s fd ⟨[v], []⟩ [("script", v)]) ∧ ∀ base : Heap, K.In base → base.Ns mainGlobals mg → FnOk l.prog w K mg base CX0 18 fa fd ["script"] (spLaw K) := by
  have e := hfa.symm.trans (PySem.W.mg_of X G a19)
  cases e
  have F0 := fun_mk (st := u_common_st) l0 c0 k0
  have b0 := F0.binds (ps := ["one", "other"]) fun _ _ _ _ _ _ us hl => match us, hl with | [_, _], _ => rfl
  have m0 := PySem.W.mg_of X G a0
  have F1 := fun_mk (st := u_tower_st) l1 c1 k1
  have b1 := F1.binds (ps := ["base", "times"]) fun _ _ _ _ _ _ us hl => match us, hl with | [_, _], _ => rfl
  have m1 := PySem.W.mg_of X G a1
  have F2 := fun_mk (st := u_root_st) l2 c2 k2
  have b2 := F2.binds (ps := ["number", "degree"]) fun _ _ _ _ _ _ us hl => match us, hl with | [_, _], _ => rfl
  have m2 := PySem.W.mg_of X G a2
  have F3 := fun_mk (st := u_fraction_st) l3 c3 k3
  have b3 := F3.binds (ps := ["top", "bottom"]) fun _ _ _ _ _ _ us hl => match us, hl with | [_, _], _ => rfl
  have m3 := PySem.W.mg_of X G a3
  have F4 := fun_mk (st := u_plus_st) l4 c4 k4
  have b4 := F4.binds (ps := ["one", "other"]) fun _ _ _ _ _ _ us hl => match us, hl with | [_, _], _ => rfl
  have m4 := PySem.W.mg_of X G a4
  have F5 := fun_mk (st := u_times_st) l5 c5 k5
  have b5 := F5.binds (ps := ["one", "other"]) fun _ _ _ _ _ _ us hl => match us, hl with | [_, _], _ => rfl
  have m5 := PySem.W.mg_of X G a5
  have F6 := fun_mk (st := u_total_st) l6 c6 k6
  have b6 := F6.binds (ps := ["rows"]) fun _ _ _ _ _ _ us hl => match us, hl with | [_], _ => rfl
  have m6 := PySem.W.mg_of X G a6
  have F7 := fun_mk (st := u_check_parts_st) l7 c7 k7
  have b7 := F7.binds (ps := ["parts"]) fun _ _ _ _ _ _ us hl => match us, hl with | [_], _ => rfl
  have m7 := PySem.W.mg_of X G a7
  have F8 := fun_mk (st := u_steps_st) l8 c8 k8
  have b8 := F8.binds (ps := ["parts"]) fun _ _ _ _ _ _ us hl => match us, hl with | [_], _ => rfl
  have m8 := PySem.W.mg_of X G a8
  have F9 := fun_mk (st := u_check_square_st) l9 c9 k9
  have b9 := F9.binds (ps := ["number"]) fun _ _ _ _ _ _ us hl => match us, hl with | [_], _ => rfl
  have m9 := PySem.W.mg_of X G a9
  have F10 := fun_mk (st := u_parts_of_root_st) l10 c10 k10
  have b10 := F10.binds (ps := ["number"]) fun _ _ _ _ _ _ us hl => match us, hl with | [_], _ => rfl
  have m10 := PySem.W.mg_of X G a10
  have F11 := fun_mk (st := u_least_pair_st) l11 c11 k11
  have b11 := F11.binds (ps := ["number", "sign"]) fun _ _ _ _ _ _ us hl => match us, hl with | [_, _], _ => rfl
  have m11 := PySem.W.mg_of X G a11
  have F12 := fun_mk (st := u_pairs_st) l12 c12 k12
  have b12 := F12.binds (ps := ["number", "many"]) fun _ _ _ _ _ _ us hl => match us, hl with | [_, _], _ => rfl
  have m12 := PySem.W.mg_of X G a12
  have F13 := fun_mk (st := u_value_st) l13 c13 k13
  have b13 := F13.binds (ps := ["form", "x", "y"]) fun _ _ _ _ _ _ us hl => match us, hl with | [_, _, _], _ => rfl
  have m13 := PySem.W.mg_of X G a13
  have F14 := fun_mk (st := u_check_st) l14 c14 k14
  have b14 := F14.binds (ps := ["rule", "first"]) fun _ _ _ _ _ _ us hl => match us, hl with | [_, _], _ => rfl
  have m14 := PySem.W.mg_of X G a14
  have F15 := fun_mk (st := u_terms_st) l15 c15 k15
  have b15 := F15.binds (ps := ["rule", "first", "many"]) fun _ _ _ _ _ _ us hl => match us, hl with | [_, _, _], _ => rfl
  have m15 := PySem.W.mg_of X G a15
  have F16 := fun_mk (st := u__law_product_st) l16 c16 k16
  have b16 := F16.binds (ps := ["number", "one", "other"]) fun _ _ _ _ _ _ us hl => match us, hl with | [_, _, _], _ => rfl
  have m16 := PySem.W.mg_of X G a16
  have F17 := fun_mk (st := beg_st) l17 c17 k17
  have b17 := F17.binds (ps := ["script"]) fun _ _ _ _ _ _ us hl => match us, hl with | [_], _ => rfl
  have m17 := PySem.W.mg_of X G a17
  have F18 := fun_mk (st := tak_st) l18 c18 k18
  have b18 := F18.binds (ps := ["d", "many"]) fun _ _ _ _ _ _ us hl => match us, hl with | [_, _], _ => rfl
  have m18 := PySem.W.mg_of X G a18
  have F19 := fun_mk (st := u_law_st) l19 c19 k19
  have b19 := F19.binds (ps := ["script"]) fun _ _ _ _ _ _ us hl => match us, hl with | [_], _ => rfl
  have y_abs := PySem.W.mg_none_of X G z_abs
  have y_any := PySem.W.mg_none_of X G z_any
  have y_int := PySem.W.mg_none_of X G z_int
  have y_len := PySem.W.mg_none_of X G z_len
  have y_list := PySem.W.mg_none_of X G z_list
  have y_max := PySem.W.mg_none_of X G z_max
  have y_min := PySem.W.mg_none_of X G z_min
  have y_range := PySem.W.mg_none_of X G z_range
  have y_tuple := PySem.W.mg_none_of X G z_tuple
  have hcon : ∀ x d, cons.lookup x = some d → ∃ v u, mg x = some u ∧ RelV v u ∧ ∀ H, Rp K H v d := by
    refine con_all ?_
    intro p hp
    simp only [cons, List.mem_cons, List.not_mem_nil, or_false] at hp
    rcases hp with rfl | rfl | rfl | rfl
    · exact ⟨.int 8, _, PySem.W.mg_of X G q_MOST_DEPTH, ⟨t_MOST_DEPTH, rfl⟩, fun _ => rfl⟩
    · exact ⟨.int 60, _, PySem.W.mg_of X G q_MOST_PARTS, ⟨t_MOST_PARTS, rfl⟩, fun _ => rfl⟩
    · exact ⟨.int 60, _, PySem.W.mg_of X G q_MOST_TERMS, ⟨t_MOST_TERMS, rfl⟩, fun _ => rfl⟩
    · exact con_tup (ns := [0, 1]) (PySem.W.mg_of X G q_ZERO) r_ZERO (by show 2 ≤ PySem.sizeLine; decide) (.cons ⟨_, rfl⟩ (.cons ⟨_, rfl⟩ .nil))
  have hbl : ∀ x, blts.contains x = true → mg x = none := by
    intro x hx
    simp only [blts, List.contains_iff_mem, List.mem_cons, List.not_mem_nil, or_false] at hx
    rcases hx with rfl | rfl | rfl | rfl | rfl | rfl | rfl | rfl
    · exact y_any
    · exact y_int
    · exact y_len
    · exact y_list
    · exact y_max
    · exact y_min
    · exact y_range
    · exact y_tuple
  refine ⟨PySem.W.fnOf "law" "law" (defArgs u_law_st) (defBody u_law_st) (defScope u_law_st) .none kV19 dc19 pm19 an19 cd19 ct19, fun s v => .of_eq rfl, fun base _ _ => ?_⟩
  have p0 : Paired (FOk l.prog w K mg base 0) [] [] := .nil
  have o0 : FOk l.prog w K mg base 1 "common" u_common_φ := runM_ok (c := u_common_cc) (φs := u_common_φs) (code := u_common_code) (fuel := 100) u_common_ms_eq (env_mk hcon hbl p0 .nil) F0 m0 b0 u_common_sc rfl u_common_comp (by decide)
  have p1 := Paired.cons o0 (fns_mono p0 (Nat.le_succ 0))
  have o1 : FOk l.prog w K mg base 2 "tower" u_tower_φ := runM_ok (c := u_tower_cc) (φs := u_tower_φs) (code := u_tower_code) (fuel := 100) u_tower_ms_eq (env_mk hcon hbl p1 .nil) F1 m1 b1 u_tower_sc rfl u_tower_comp (by decide)
  have p2 := Paired.cons o1 (fns_mono p1 (Nat.le_succ 1))
  have o2 : FOk l.prog w K mg base 3 "root" u_root_φ := runM_ok (c := u_root_cc) (φs := u_root_φs) (code := u_root_code) (fuel := 100) u_root_ms_eq (env_mk hcon hbl p2 .nil) F2 m2 b2 u_root_sc rfl u_root_comp (by decide)
  have p3 := Paired.cons o2 (fns_mono p2 (Nat.le_succ 2))
  have o3 : FOk l.prog w K mg base 4 "fraction" u_fraction_φ := runM_ok (c := u_fraction_cc) (φs := u_fraction_φs) (code := u_fraction_code) (fuel := 100) u_fraction_ms_eq (env_mk hcon hbl p3 .nil) F3 m3 b3 u_fraction_sc rfl u_fraction_comp (by decide)
  have p4 := Paired.cons o3 (fns_mono p3 (Nat.le_succ 3))
  have o4 : FOk l.prog w K mg base 5 "plus" u_plus_φ := runM_ok (c := u_plus_cc) (φs := u_plus_φs) (code := u_plus_code) (fuel := 100) u_plus_ms_eq (env_mk hcon hbl p4 .nil) F4 m4 b4 u_plus_sc rfl u_plus_comp (by decide)
  have p5 := Paired.cons o4 (fns_mono p4 (Nat.le_succ 4))
  have o5 : FOk l.prog w K mg base 6 "times" u_times_φ := runM_ok (c := u_times_cc) (φs := u_times_φs) (code := u_times_code) (fuel := 100) u_times_ms_eq (env_mk hcon hbl p5 .nil) F5 m5 b5 u_times_sc rfl u_times_comp (by decide)
  have p6 := Paired.cons o5 (fns_mono p5 (Nat.le_succ 5))
  have o6 : FOk l.prog w K mg base 7 "total" u_total_φ := runM_ok (c := u_total_cc) (φs := u_total_φs) (code := u_total_code) (fuel := 100) u_total_ms_eq (env_mk hcon hbl p6 .nil) F6 m6 b6 u_total_sc rfl u_total_comp (by decide)
  have p7 := Paired.cons o6 (fns_mono p6 (Nat.le_succ 6))
  have o7 : FOk l.prog w K mg base 8 "check_parts" u_check_parts_φ := runM_ok (c := u_check_parts_cc) (φs := u_check_parts_φs) (code := u_check_parts_code) (fuel := 100) u_check_parts_ms_eq (env_mk hcon hbl p7 .nil) F7 m7 b7 u_check_parts_sc rfl u_check_parts_comp (by decide)
  have p8 := Paired.cons o7 (fns_mono p7 (Nat.le_succ 7))
  have o8 : FOk l.prog w K mg base 9 "steps" u_steps_φ := runM_ok (c := u_steps_cc) (φs := u_steps_φs) (code := u_steps_code) (fuel := 100) u_steps_ms_eq (env_mk hcon hbl p8 .nil) F8 m8 b8 u_steps_sc rfl u_steps_comp (by decide)
  have p9 := Paired.cons o8 (fns_mono p8 (Nat.le_succ 8))
  have o9 : FOk l.prog w K mg base 10 "check_square" u_check_square_φ := runM_ok (c := u_check_square_cc) (φs := u_check_square_φs) (code := u_check_square_code) (fuel := 100) u_check_square_ms_eq (env_mk hcon hbl p9 .nil) F9 m9 b9 u_check_square_sc rfl u_check_square_comp (by decide)
  have p10 := Paired.cons o9 (fns_mono p9 (Nat.le_succ 9))
  have o10 : FOk l.prog w K mg base 11 "parts_of_root" u_parts_of_root_φ := runM_ok (c := u_parts_of_root_cc) (φs := u_parts_of_root_φs) (code := u_parts_of_root_code) (fuel := 100) u_parts_of_root_ms_eq (env_mk hcon hbl p10 .nil) F10 m10 b10 u_parts_of_root_sc rfl u_parts_of_root_comp (by decide)
  have p11 := Paired.cons o10 (fns_mono p10 (Nat.le_succ 10))
  have o11 : FOk l.prog w K mg base 12 "least_pair" u_least_pair_φ := runM_ok (c := u_least_pair_cc) (φs := u_least_pair_φs) (code := u_least_pair_code) (fuel := 100) u_least_pair_ms_eq (env_mk hcon hbl p11 .nil) F11 m11 b11 u_least_pair_sc rfl u_least_pair_comp (by decide)
  have p12 := Paired.cons o11 (fns_mono p11 (Nat.le_succ 11))
  have o12 : FOk l.prog w K mg base 13 "pairs" u_pairs_φ := runM_ok (c := u_pairs_cc) (φs := u_pairs_φs) (code := u_pairs_code) (fuel := 100) u_pairs_ms_eq (env_mk hcon hbl p12 .nil) F12 m12 b12 u_pairs_sc rfl u_pairs_comp (by decide)
  have p13 := Paired.cons o12 (fns_mono p12 (Nat.le_succ 12))
  have o13 : FOk l.prog w K mg base 14 "value" u_value_φ := runM_ok (c := u_value_cc) (φs := u_value_φs) (code := u_value_code) (fuel := 100) u_value_ms_eq (env_mk hcon hbl p13 .nil) F13 m13 b13 u_value_sc rfl u_value_comp (by decide)
  have p14 := Paired.cons o13 (fns_mono p13 (Nat.le_succ 13))
  have o14 : FOk l.prog w K mg base 15 "check" u_check_φ := runM_ok (c := u_check_cc) (φs := u_check_φs) (code := u_check_code) (fuel := 100) u_check_ms_eq (env_mk hcon hbl p14 .nil) F14 m14 b14 u_check_sc rfl u_check_comp (by decide)
  have p15 := Paired.cons o14 (fns_mono p14 (Nat.le_succ 14))
  have o15 : FOk l.prog w K mg base 16 "terms" u_terms_φ := runM_ok (c := u_terms_cc) (φs := u_terms_φs) (code := u_terms_code) (fuel := 100) u_terms_ms_eq (env_mk hcon hbl p15 .nil) F15 m15 b15 u_terms_sc rfl u_terms_comp (by decide)
  have p16 := Paired.cons o15 (fns_mono p15 (Nat.le_succ 15))
  have o16 : FOk l.prog w K mg base 17 "_law_product" u__law_product_φ := runM_ok (c := u__law_product_cc) (φs := u__law_product_φs) (code := u__law_product_code) (fuel := 100) u__law_product_ms_eq (env_mk hcon hbl p16 .nil) F16 m16 b16 u__law_product_sc rfl u__law_product_comp (by decide)
  have p17 := Paired.cons o16 (fns_mono p16 (Nat.le_succ 16))
  have ot : TOk l.prog w K mg base 17 "_law_take" takeF := ⟨takeF_cells, f18, _, _, (tak_ok F18 y_int y_abs y_len).mono (by decide), m18, k18, b18⟩
  exact law_ev (c := u_law_cc) (env_mk (φs := u_law_φs) (ψs := [takeF]) hcon hbl p17 (.cons ot .nil)) F19 u_law_sc rfl rfl (by decide +kernel) (visB_ok (by decide +kernel)) (by decide +kernel) ((beg_ok F17 y_int y_list).mono (by decide)) m17 k17 b17 rfl u_law_comp hL
noncomputable def chk (τ : Tp) (x : Int) : Bool := frcI x fun x => okTrue (law_ms (.un :: .tp :: .im (.int x) :: List.replicate 13 .un) τ)
noncomputable def ckn (τ : Tp) (j : Nat) : Bool := (List.range 10).all fun i => chk τ (.ofNat (10 * j + i + 2))
theorem ck0 (τ : Tp) : ckn τ 0 = true := by kernel_rfl
theorem ck1 (τ : Tp) : ckn τ 1 = true := by kernel_rfl
theorem ck2 (τ : Tp) : ckn τ 2 = true := by kernel_rfl
theorem ck3 (τ : Tp) : ckn τ 3 = true := by kernel_rfl
theorem ck4 (τ : Tp) : ckn τ 4 = true := by kernel_rfl
theorem ck5 (τ : Tp) : ckn τ 5 = true := by kernel_rfl
theorem ck6 (τ : Tp) : ckn τ 6 = true := by kernel_rfl
theorem ck7 (τ : Tp) : ckn τ 7 = true := by kernel_rfl
theorem ck8 (τ : Tp) : ckn τ 8 = true := by kernel_rfl
theorem ck9 (τ : Tp) : ckn τ 9 = true := by kernel_rfl
theorem ck10 (τ : Tp) : ckn τ 10 = true := by kernel_rfl
theorem ck11 (τ : Tp) : ckn τ 11 = true := by kernel_rfl
theorem ck12 (τ : Tp) : ckn τ 12 = true := by kernel_rfl
theorem ck13 (τ : Tp) : ckn τ 13 = true := by kernel_rfl
theorem ck14 (τ : Tp) : ckn τ 14 = true := by kernel_rfl
theorem ck15 (τ : Tp) : ckn τ 15 = true := by kernel_rfl
theorem ck16 (τ : Tp) : ckn τ 16 = true := by kernel_rfl
theorem ck17 (τ : Tp) : ckn τ 17 = true := by kernel_rfl
theorem ck18 (τ : Tp) : ckn τ 18 = true := by kernel_rfl
theorem ck19 (τ : Tp) : ckn τ 19 = true := by kernel_rfl
theorem ck20 (τ : Tp) : ckn τ 20 = true := by kernel_rfl
theorem ck21 (τ : Tp) : ckn τ 21 = true := by kernel_rfl
theorem ck22 (τ : Tp) : ckn τ 22 = true := by kernel_rfl
theorem ck23 (τ : Tp) : ckn τ 23 = true := by kernel_rfl
theorem ck24 (τ : Tp) : ckn τ 24 = true := by kernel_rfl
theorem ck25 (τ : Tp) : ckn τ 25 = true := by kernel_rfl
theorem ck26 (τ : Tp) : ckn τ 26 = true := by kernel_rfl
theorem ck27 (τ : Tp) : ckn τ 27 = true := by kernel_rfl
theorem ck28 (τ : Tp) : ckn τ 28 = true := by kernel_rfl
theorem ck29 (τ : Tp) : ckn τ 29 = true := by kernel_rfl
theorem ck_all (τ : Tp) : ∀ q : Nat, q < 30 → ckn τ q = true
  | 0, _ => ck0 τ
  | 1, _ => ck1 τ
  | 2, _ => ck2 τ
  | 3, _ => ck3 τ
  | 4, _ => ck4 τ
  | 5, _ => ck5 τ
  | 6, _ => ck6 τ
  | 7, _ => ck7 τ
  | 8, _ => ck8 τ
  | 9, _ => ck9 τ
  | 10, _ => ck10 τ
  | 11, _ => ck11 τ
  | 12, _ => ck12 τ
  | 13, _ => ck13 τ
  | 14, _ => ck14 τ
  | 15, _ => ck15 τ
  | 16, _ => ck16 τ
  | 17, _ => ck17 τ
  | 18, _ => ck18 τ
  | 19, _ => ck19 τ
  | 20, _ => ck20 τ
  | 21, _ => ck21 τ
  | 22, _ => ck22 τ
  | 23, _ => ck23 τ
  | 24, _ => ck24 τ
  | 25, _ => ck25 τ
  | 26, _ => ck26 τ
  | 27, _ => ck27 τ
  | 28, _ => ck28 τ
  | 29, _ => ck29 τ
  | q + 30, h => absurd h (by omega)
theorem lawHolds : LawHolds := by
  intro ns seed
  refine ⟨1000, ?_⟩
  rw [u_law_code, evSs_cons (draw_add rfl (by decide) (by decide))]
  generalize hx : (takeM ⟨ns, 0, 0, seed⟩ 300).1 = x
  generalize (takeM ⟨ns, 0, 0, seed⟩ 300).2 = τ
  have hr : 0 ≤ x ∧ x < 300 := by rw [← hx]; exact takeM_range _ (by decide)
  obtain ⟨n, rfl⟩ := Int.eq_ofNat_of_zero_le hr.1
  have h1 := ck_all τ (n / 10) (by omega)
  have h2 := List.all_eq_true.mp h1 (n % 10) (List.mem_range.mpr (Nat.mod_lt _ (by decide)))
  have h3 : (Int.ofNat (10 * (n / 10) + n % 10 + 2) : Int) = 2 + (n : Int) := by
    rw [Nat.div_add_mod, Int.ofNat_eq_natCast]; omega
  rw [h3, chk, frcI_eq, law_ms_eq, evSsK_eq] at h2
  obtain ⟨τ', h4⟩ := okTrue_of h2
  exact ⟨τ', h4⟩

end K40

open PySem PySem.W PyProof.Rows
set_option maxHeartbeats 0 in
theorem PySem.Challenge.cw_numberguild_k40_whole_equations_of_pell_holds : PySem.Challenge.rw_numberguild_k40_whole_equations_of_pell.Holds := by
  w_on; o_law; k_head; (case hw => w_witness2)
  k_fill
  refine L2.walk_of (l := PySem.Challenge.rw_numberguild_k40_whole_equations_of_pell) (n := 63) (k := 18) (x := "script") (CX := fun _ => L2.CX0) (sp := fun w => Ev.spLaw _) rfl (by decide) rfl ⟨rfl, by decide, by decide⟩ (fun w h Y => PySem.W.kIn_of Y) ?F (fun _ _ a ns hl _ hS => ⟨a, ns, rfl, hS, hl, fun _ => rfl⟩) (fun _ _ _ _ _ h => h)
  case F =>
    intro w mg fa h KX G hmg
    refine' K40.all_mk K40.lawHolds KX G hmg ?a0 ?l0 ?c0 ?k0 ?a1 ?l1 ?c1 ?k1 ?a2 ?l2 ?c2 ?k2 ?a3 ?l3 ?c3 ?k3 ?a4 ?l4 ?c4 ?k4 ?a5 ?l5 ?c5 ?k5 ?a6 ?l6 ?c6 ?k6 ?a7 ?l7 ?c7 ?k7 ?a8 ?l8 ?c8 ?k8 ?a9 ?l9 ?c9 ?k9 ?a10 ?l10 ?c10 ?k10 ?a11 ?l11 ?c11 ?k11 ?a12 ?l12 ?c12 ?k12 ?a13 ?l13 ?c13 ?k13 ?a14 ?l14 ?c14 ?k14 ?a15 ?l15 ?c15 ?k15 ?a16 ?l16 ?c16 ?k16 ?a17 ?l17 ?c17 ?k17 ?a18 ?l18 ?c18 ?k18 ?a19 ?l19 ?c19 ?k19 ?z_abs ?z_any ?z_int ?z_len ?z_list ?z_max ?z_min ?z_range ?z_tuple ?q_MOST_DEPTH ?q_MOST_PARTS ?q_MOST_TERMS ?q_ZERO ?r_ZERO
    (case a0 => k_is); (case l0 => k_is); (case c0 => k_is); (case k0 => k_is); (case a1 => k_is); (case l1 => k_is); (case c1 => k_is); (case k1 => k_is); (case a2 => k_is); (case l2 => k_is); (case c2 => k_is); (case k2 => k_is); (case a3 => k_is); (case l3 => k_is); (case c3 => k_is); (case k3 => k_is); (case a4 => k_is); (case l4 => k_is); (case c4 => k_is); (case k4 => k_is); (case a5 => k_is); (case l5 => k_is); (case c5 => k_is); (case k5 => k_is); (case a6 => k_is); (case l6 => k_is); (case c6 => k_is); (case k6 => k_is); (case a7 => k_is); (case l7 => k_is); (case c7 => k_is); (case k7 => k_is); (case a8 => k_is); (case l8 => k_is); (case c8 => k_is); (case k8 => k_is); (case a9 => k_is); (case l9 => k_is); (case c9 => k_is); (case k9 => k_is); (case a10 => k_is); (case l10 => k_is); (case c10 => k_is); (case k10 => k_is); (case a11 => k_is); (case l11 => k_is); (case c11 => k_is); (case k11 => k_is); (case a12 => k_is); (case l12 => k_is); (case c12 => k_is); (case k12 => k_is); (case a13 => k_is); (case l13 => k_is); (case c13 => k_is); (case k13 => k_is); (case a14 => k_is); (case l14 => k_is); (case c14 => k_is); (case k14 => k_is); (case a15 => k_is); (case l15 => k_is); (case c15 => k_is); (case k15 => k_is); (case a16 => k_is); (case l16 => k_is); (case c16 => k_is); (case k16 => k_is); (case a17 => k_is); (case l17 => k_is); (case c17 => k_is); (case k17 => k_is); (case a18 => k_is); (case l18 => k_is); (case c18 => k_is); (case k18 => k_is); (case a19 => k_is); (case l19 => k_is); (case c19 => k_is); (case k19 => k_is); (case z_abs => k_is); (case z_any => k_is); (case z_int => k_is); (case z_len => k_is); (case z_list => k_is); (case z_max => k_is); (case z_min => k_is); (case z_range => k_is); (case z_tuple => k_is); (case q_MOST_DEPTH => k_is); (case q_MOST_PARTS => k_is); (case q_MOST_TERMS => k_is); (case q_ZERO => k_is); (case r_ZERO => k_is)
