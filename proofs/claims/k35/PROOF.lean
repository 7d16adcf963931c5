import PyProof.Rows.All
import Wide.All
import OpenK.AllK
import Wide.FinOn
import HandS.ForMost
import HandS.Exc
import HandS.ExcOwn
import HandS.IsInst
import HandS.Flow
import HandS.StrMore
import HandS.RaiseMore
import HandS.More
import HandS.Codes
import HandS.Defaults
import HandS.HeadEnd
import HandS.HeadHook1
import HandS.HeadHook2
import HandS.HeadHook3
import HandS.HeadHook4
import HandS.Head0
import HandS.Head1
import HandS.Head2
import HandS.ExcInit
import HandS.ExcField
import HandS.TryOnly
import KE.GoesMore
import KE.GoesZip
import PySem.Challenge.RW_talkhouse_k35_texts_of_code
import KE.KStateDown
import Lean
import KE.IntTextText
set_option Elab.async false
set_option linter.all false
set_option maxRecDepth 100000
/-! A small language (E expressions, S statements), its meaning upon plain data (D): ev, exec. -/
namespace DL
open PySem L2
/-- plain data -/
inductive D where
  | non | bl (b : Bool) | int (i : Int) | str (l : List Nat)
  | tup (xs : List D) | lst (xs : List D) | loc (i : Nat)
  /-- a list that is read alone (the script) -/
  | lsk (xs : List D)
  deriving Inhabited
mutual
/-- no list within -/
def pur : D → Bool
  | .lst _ => false
  | .lsk _ => false
  | .tup xs => purs xs
  | _ => true
def purs : List D → Bool
  | [] => true
  | x :: r => pur x && purs r
end
abbrev Cell := List (Nat × D)
abbrev Ss := List Cell
def cget (c : Cell) (k : Nat) : Option D := (c.find? fun q => decide (q.1 = k)).map (·.2)
def chas (c : Cell) (k : Nat) : Bool := c.any fun q => decide (q.1 = k)
def cput (c : Cell) (k : Nat) (v : D) : Cell := c.map fun q => if q.1 = k then (q.1, v) else q
inductive Bop | add | sub | mul | mod | fdiv
inductive Cop | eq | ne | lt | le | gt | ge | isin | notin | isN | isnotN
inductive Bi | len | int | str | abs | tuple | all | sum | isi (t : Nat)
inductive Me | join | split | find
inductive Itk | lst | tup | str | rng1 | rng2 | rng3 | zip | zipL
inductive Tg | nm (i : Nat) | tps (is : List Nat)
inductive E where
  | nop | nil | cons (a r : E)
  | var (i : Nat) | int (i : Int) | str (l : List Nat) | bl (b : Bool) | non
  | bin (o : Bop) (a b : E) | cmp (o : Cop) (a b : E)
  | and_ (a b : E) | or_ (a b : E) | not_ (a : E) | ite (c a b : E)
  | tup (a : E) | lst (a : E)
  | idx (a b : E) | slc (k : Itk) (a lo hi : E)
  | bi (f : Bi) (a : E) | me (m : Me) (o a : E)
  | kget (t : Nat) (k : E) | kin (t : Nat) (neg : Bool) (k : E)
  | dget (o : E) (k : Nat)
  | call (f : Nat) (a : E)
  | cel (ks : List Nat) (a : E)
  | comp (k : Itk) (src : E) (tg : Tg) (own : List Nat) (c e : E)
def SZ : Nat := 16777216
def tru : D → Option Bool
  | .non => some false
  | .bl b => some b
  | .int i => some (i != 0)
  | .str l => if l.length ≤ SZ then some (!l.isEmpty) else none
  | .tup xs => some (!xs.isEmpty)
  | .lst xs => some (!xs.isEmpty)
  | .loc _ => none
  | .lsk _ => none
def truC (c : E) (y : D) : Option Bool := match c with
  | .nop => some true
  | _ => tru y
def bop : Bop → D → D → Option D
  | .add, .int i, .int j => some (.int (i + j))
  | .add, .str x, .str y => if x.length + y.length ≤ SZ then some (.str (x ++ y)) else none
  | .add, .lst x, .lst y => if x.length + y.length ≤ SZ then some (.lst (x ++ y)) else none
  | .sub, .int i, .int j => some (.int (i - j))
  | .mul, .int i, .int j => if (-(2 ^ 64) < i ∧ i < 2 ^ 64) ∨ (-(2 ^ 64) < j ∧ j < 2 ^ 64) then some (.int (i * j)) else none
  | .mod, .int i, .int j => if 0 < j then some (.int (i % j)) else none
  | .fdiv, .int i, .int j => if 0 < j ∧ j < 1073741824 then some (.int (i / j)) else none
  | _, _, _ => none
/-- == of two scalars of one kind, or of None and a scalar -/
def deq : D → D → Option Bool
  | .non, .non => some true
  | .non, .int _ => some false
  | .int _, .non => some false
  | .non, .str _ => some false
  | .str _, .non => some false
  | .int i, .int j => some (decide (i = j))
  | .bl i, .bl j => some (decide (i = j))
  | .str i, .str j => some (decide (i = j))
  | .int _, .str _ => some false
  | .str _, .int _ => some false
  | _, _ => none
def strs? : List D → Option (List (List Nat))
  | [] => some []
  | .str l :: r => (strs? r).map (l :: ·)
  | _ => none
def ints? : List D → Option (List Int)
  | [] => some []
  | .int l :: r => (ints? r).map (l :: ·)
  | _ => none
def bls? : List D → Option (List Bool)
  | [] => some []
  | .bl l :: r => (bls? r).map (l :: ·)
  | _ => none
def din : D → D → Option Bool
  | .str [c], .str z => some (decide (c ∈ z))
  | .str x, .tup ys => (strs? ys).map fun l => decide (x ∈ l)
  | .str x, .lst ys => (strs? ys).map fun l => decide (x ∈ l)
  | .int x, .tup ys => (ints? ys).map fun l => decide (x ∈ l)
  | .int x, .lst ys => (ints? ys).map fun l => decide (x ∈ l)
  | _, _ => none
def cop : Cop → D → D → Option Bool
  | .eq, x, y => deq x y
  | .ne, x, y => (deq x y).map (!·)
  | .lt, .int i, .int j => some (decide (i < j))
  | .le, .int i, .int j => some (decide (i ≤ j))
  | .gt, .int i, .int j => some (decide (j < i))
  | .ge, .int i, .int j => some (decide (j ≤ i))
  | .isin, x, y => din x y
  | .notin, x, y => (din x y).map (!·)
  | .isN, .non, .non => some true
  | .isN, _, .non => some false
  | .isnotN, .non, .non => some false
  | .isnotN, _, .non => some true
  | _, _, _ => none
def at? {α : Type} (xs : List α) (i : Int) : Option α := if 0 ≤ i then (if i < xs.length then xs[i.toNat]? else none) else if -(xs.length : Int) ≤ i then xs[(i + xs.length).toNat]? else none
def dix : D → D → Option D
  | .tup xs, .int i => at? xs i
  | .lst xs, .int i => at? xs i
  | .str l, .int i => if l.length ≤ SZ then (at? l i).map fun c => .str [c] else none
  | _, _ => none
def six (n d : Nat) : Option Int → Nat
  | none => d
  | some v => if v < 0 then (v + (n : Int)).toNat else min v.toNat n
def cut {α : Type} (xs : List α) (lo hi : Option Int) : List α := (xs.drop (six xs.length 0 lo)).take (six xs.length xs.length hi - six xs.length 0 lo)
def part? : D → Option (Option Int)
  | .int i => some (some i)
  | _ => none
def partE (e : E) (d : D) : Option (Option Int) := match e with
  | .nop => some none
  | _ => part? d
def dsl : Itk → D → Option Int → Option Int → Option D
  | .tup, .tup xs, lo, hi => if six xs.length 0 lo = 0 ∧ six xs.length xs.length hi = xs.length then none else some (.tup (cut xs lo hi))
  | .lst, .lst xs, lo, hi => some (.lst (cut xs lo hi))
  | .str, .str l, lo, hi => if l.length ≤ SZ then some (.str (cut l lo hi)) else none
  | _, _, _, _ => none
def dall : List D → Option Bool
  | [] => some true
  | .bl b :: r => (dall r).map (b && ·)
  | _ => none
/-- int(text): of signs 0 .. 9 -/
def decv (l : List Nat) : Int := ((NumText.digitsVal l : Nat) : Int)
def isDig (c : Nat) : Bool := decide (48 ≤ c) && decide (c ≤ 57)
def toText (i : Int) : List Nat := TL.numL i.toNat
def kindOf : D → Option Nat
  | .int _ => some 0
  | .bl _ => some 1
  | .str _ => some 2
  | .tup _ => some 3
  | .lst _ => some 4
  | .loc _ => some 5
  | .non => some 6
  | .lsk _ => none
/-- isinstance(x, T), T: 0 int, 1 bool, 2 str, 3 tuple, 4 list, 5 dict -/
def isiB (k t : Nat) : Bool := k == t || (k == 1 && t == 0)
def dbi : Bi → D → Option D
  | .len, .str l => if l.length ≤ SZ then some (.int l.length) else none
  | .len, .tup xs => some (.int xs.length)
  | .len, .lst xs => some (.int xs.length)
  | .int, .int i => some (.int i)
  | .int, .str l => if l ≠ [] ∧ l.all isDig = true ∧ l.length ≤ 640 then some (.int (decv l)) else none
  | .str, .int i => if 0 ≤ i ∧ i < 10 ^ 10 then some (.str (toText i)) else none
  | .str, .str l => some (.str l)
  | .abs, .int i => some (.int (if i < 0 then -i else i))
  | .tuple, .lst xs => some (.tup xs)
  | .tuple, .tup xs => some (.tup xs)
  | .all, .lst xs => (dall xs).map .bl
  | .sum, .lst xs => (ints? xs).map fun l => .int l.sum
  | .isi t, x => if t ≤ 5 then (kindOf x).map fun k => .bl (isiB k t) else none
  | _, _ => none
def joinL (sep : List Nat) : List (List Nat) → List Nat
  | [] => []
  | [x] => x
  | x :: y :: r => x ++ sep ++ joinL sep (y :: r)
/-- text.split(one sign) -/
def splitL (c : Nat) : List Nat → List (List Nat)
  | [] => [[]]
  | x :: r => if x = c then [] :: splitL c r else match splitL c r with
    | [] => [[x]]
    | w :: ws => (x :: w) :: ws
/-- the place of the sign c at or behind n, or -1 -/
def findL (c : Nat) : List Nat → Nat → Int
  | [], _ => -1
  | x :: r, n => if x = c then (n : Int) else findL c r (n + 1)
def dme : Me → D → D → Option D
  | .join, .str s, .tup [.lst xs] => (strs? xs).bind fun l => if (l.map (·.length)).sum + l.length * s.length ≤ 16777216 then some (.str (joinL s l)) else none
  | .join, .str s, .tup [.tup xs] => (strs? xs).bind fun l => if (l.map (·.length)).sum + l.length * s.length ≤ 16777216 then some (.str (joinL s l)) else none
  | .split, .str s, .tup [.str [c]] => if s.length + 2 ≤ SZ then some (.lst ((splitL c s).map .str)) else none
  | .find, .str s, .tup [.str [c], .int i] => if s.length ≤ SZ ∧ 0 ≤ i ∧ i ≤ s.length then some (.int (findL c (s.drop i.toNat) i.toNat)) else none
  | _, _, _ => none
def fits (i : Int) : Prop := -(2 ^ 62) ≤ i ∧ i < 2 ^ 62
instance (i : Int) : Decidable (fits i) := by unfold fits; infer_instance
def zipD : List D → List D → List D
  | x :: xs, y :: ys => .tup [x, y] :: zipD xs ys
  | _, _ => []
/-- what a for or a comprehension walks -/
def items : Itk → D → Option (List D)
  | .lst, .lst xs => some xs
  | .lst, .lsk xs => some xs
  | .tup, .tup xs => some xs
  | .str, .str l => some (l.map fun c => .str [c])
  | .rng1, .tup [.int n] => if fits n then some ((List.range n.toNat).map fun j : Nat => .int (j : Int)) else none
  | .rng2, .tup [.int a, .int b] => if fits a ∧ fits b then some ((List.range (b - a).toNat).map fun j : Nat => .int (a + (j : Int))) else none
  | .rng3, .tup [.int 0, .int b, .int c] => if 0 ≤ b ∧ b < 2 ^ 62 ∧ 0 < c ∧ c < 1073741824 then some ((List.range ((b + c - 1) / c).toNat).map fun j : Nat => .int ((j : Int) * c)) else none
  | .zipL, .tup [.lst xs, .lst ys] => some (zipD xs ys)
  | .zip, .tup [.str l, .lst ys] => some (zipD (l.map fun c => .str [c]) ys)
  | _, _ => none
abbrev Vw := List (Option D)
def bnd {β : Type} (x : Option (D × Ss)) (f : D → Ss → Option β) : Option β := match x with
  | some (d, s) => f d s
  | none => none
theorem bnd_some {β : Type} {d : D} {s : Ss} {f : D → Ss → Option β} : bnd (some (d, s)) f = f d s := rfl
theorem bnd_none {β : Type} {f : D → Ss → Option β} : bnd none f = none := rfl
def wipeO (ρ : Vw) : List Nat → Vw
  | [] => ρ
  | v :: vs => (wipeO ρ vs).set v none
def setsO : Vw → List Nat → List D → Option Vw
  | ρ, [], [] => some ρ
  | ρ, i :: is, x :: xs => if i < ρ.length then setsO (ρ.set i (some x)) is xs else none
  | _, _, _ => none
def tgO : Tg → D → Vw → Option Vw
  | .nm i, x, ρ => if i < ρ.length then some (ρ.set i (some x)) else none
  | .tps is, .tup xs, ρ => setsO ρ is xs
  | _, _, _ => none
def compF (step : D → Ss → Option (Option D × Ss)) : List D → Ss → Option (List D × Ss)
  | [], s => some ([], s)
  | x :: r, s => match step x s with
    | none => none
    | some (o, s1) => match compF step r s1 with
      | none => none
      | some (ds, s2) => some (o.toList ++ ds, s2)
structure Par where
  Φ : Nat → List D → Ss → Option (D × Ss)
  fr : Nat → Bool
  N : Nat
  nt : Nat
  nk : Nat
  T : Nat → List (List Nat × D)
def tgIn : Tg → List Nat → Bool
  | .nm i, own => decide (i ∈ own)
  | .tps is, own => is.all fun i => decide (i ∈ own)
def isArg : E → Bool
  | .nil => true
  | .cons _ r => isArg r
  | _ => false
def tget (t : List (List Nat × D)) (k : List Nat) : Option D := (t.find? fun q => decide (q.1 = k)).map (·.2)
def ev (P : Par) : E → Vw → Ss → Option (D × Ss)
  | .nop, _, s => some (.non, s)
  | .nil, _, s => some (.tup [], s)
  | .cons a r, ρ, s => bnd (ev P a ρ s) fun x s => bnd (ev P r ρ s) fun y s => match y with
    | .tup ys => some (.tup (x :: ys), s)
    | _ => none
  | .var i, ρ, s => match ρ[i]? with
    | some (some d) => some (d, s)
    | _ => none
  | .int i, _, s => some (.int i, s)
  | .str l, _, s => some (.str l, s)
  | .bl b, _, s => some (.bl b, s)
  | .non, _, s => some (.non, s)
  | .bin o a b, ρ, s => bnd (ev P a ρ s) fun x s => bnd (ev P b ρ s) fun y s => (bop o x y).map (·, s)
  | .cmp o a b, ρ, s => bnd (ev P a ρ s) fun x s => bnd (ev P b ρ s) fun y s => (cop o x y).map fun k => (.bl k, s)
  | .and_ a b, ρ, s => bnd (ev P a ρ s) fun x s => match tru x with
    | some true => ev P b ρ s
    | some false => some (x, s)
    | none => none
  | .or_ a b, ρ, s => bnd (ev P a ρ s) fun x s => match tru x with
    | some true => some (x, s)
    | some false => ev P b ρ s
    | none => none
  | .not_ a, ρ, s => bnd (ev P a ρ s) fun x s => (tru x).map fun k => (.bl (!k), s)
  | .ite c a b, ρ, s => bnd (ev P c ρ s) fun x s => match tru x with
    | some true => ev P a ρ s
    | some false => ev P b ρ s
    | none => none
  | .tup a, ρ, s => bnd (ev P a ρ s) fun x s => match x with
    | .tup xs => if xs.length ≤ SZ then some (.tup xs, s) else none
    | _ => none
  | .lst a, ρ, s => bnd (ev P a ρ s) fun x s => match x with
    | .tup xs => if xs.length ≤ SZ then some (.lst xs, s) else none
    | _ => none
  | .idx a b, ρ, s => bnd (ev P a ρ s) fun x s => bnd (ev P b ρ s) fun y s => (dix x y).map (·, s)
  | .slc k a lo hi, ρ, s => bnd (ev P a ρ s) fun x s => bnd (ev P lo ρ s) fun l s => bnd (ev P hi ρ s) fun h s => (partE lo l).bind fun l => (partE hi h).bind fun h => (dsl k x l h).map (·, s)
  | .bi f a, ρ, s => bnd (ev P a ρ s) fun x s => (dbi f x).map (·, s)
  | .me m o a, ρ, s => bnd (ev P o ρ s) fun x s => bnd (ev P a ρ s) fun y s => (dme m x y).map (·, s)
  | .kget t k, ρ, s => bnd (ev P k ρ s) fun x s => match x with
    | .str l => if t < P.nt then (tget (P.T t) l).map (·, s) else none
    | _ => none
  | .kin t neg k, ρ, s => bnd (ev P k ρ s) fun x s => match x with
    | .str l => if t < P.nt then some (.bl (if neg then !(tget (P.T t) l).isSome else (tget (P.T t) l).isSome), s) else none
    | _ => none
  | .dget o k, ρ, s => bnd (ev P o ρ s) fun x s => match x with
    | .loc c => (s[c]?).bind fun cl => (cget cl k).map (·, s)
    | _ => none
  | .call f a, ρ, s => bnd (ev P a ρ s) fun x s => match x with
    | .tup xs => P.Φ f xs s
    | _ => none
  | .cel ks a, ρ, s => bnd (ev P a ρ s) fun x s => match x with
    | .tup xs => if isArg a = true ∧ xs.length = ks.length ∧ ks ≠ [] ∧ ks.length ≤ 15 ∧ ks.Nodup ∧ (ks.all fun k => decide (k < P.nk)) = true then some (.loc s.length, s ++ [ks.zip xs]) else none
    | _ => none
  | .comp k src tg own c e, ρ, s => bnd (ev P src ρ s) fun d s => (items k d).bind fun xs => if xs.length ≤ SZ ∧ tgIn tg own = true then
      (compF (fun x s => (tgO tg x (wipeO ρ own)).bind fun ρ' => bnd (ev P c ρ' s) fun y s => match truC c y with
        | some true => bnd (ev P e ρ' s) fun z s => some (some z, s)
        | some false => some (none, s)
        | none => none) xs s).map fun q => (.lst q.1, q.2)
    else none
inductive Slot | nil | frz (d : D) | own (ds : List D)
abbrev Env := List Slot
def Slot.vis : Slot → Option D
  | .nil => none
  | .frz d => some d
  | .own ds => some (.lst ds)
def Slot.hid : Slot → Option D
  | .frz d => some d
  | _ => none
def Slot.isOwn : Slot → Bool
  | .own _ => true
  | _ => false
def vis (ρ : Env) : Vw := ρ.map Slot.vis
def hid (ρ : Env) : Vw := ρ.map Slot.hid
def noOwn (ρ : Env) : Bool := ρ.all fun x => !x.isOwn
/-- a new cell only while nothing is owned -/
def okc (ρ : Env) (s s' : Ss) : Bool := s'.length == s.length || noOwn ρ
/-- how a value is kept: pk (seen with what is owned, no list within), st (seen without), fr (a new list, its items without lists), frs (a new list, seen without) -/
inductive Md | pk | st | fr | frs
inductive S where
  | skip | seq (a b : S)
  | asg (i : Nat) (m : Md) (e : E)
  | unp (is : List Nat) (m : Md) (e : E)
  | app (i : Nat) (m : Md) (e : E)
  | ext (i : Nat) (e : E)
  | dset (o : E) (k : Nat) (e : E)
  | expr (e : E)
  | ite (c : E) (a b : S)
  | for_ (k : Itk) (src : E) (tg : Tg) (b : S)
  | while_ (c : E) (b : S)
  | ret (m : Md) (e : E)
  | reto (i : Nat)
  | brk | cont
  | never
  | raise_ (e : E)
inductive Out
  | nx (ρ : Env) (s : Ss) | rt (fr : Bool) (d : D) (s : Ss) | bk (ρ : Env) (s : Ss) | ct (ρ : Env) (s : Ss)
  /-- an exception of one's own class leaves, with one value -/
  | ex (d : D) (s : Ss)
def fresh (P : Par) : E → Bool
  | .lst _ => true
  | .comp .. => true
  | .call f _ => P.fr f
  | .bin .add _ _ => true
  | .slc .. => true
  | .me .split _ _ => true
  | _ => false
def setS : Env → Nat → Slot → Option Env := fun ρ i x => if i < ρ.length then some (ρ.set i x) else none
def setsS : Env → List Nat → List D → Option Env
  | ρ, [], [] => some ρ
  | ρ, i :: is, x :: xs => if i < ρ.length then setsS (ρ.set i (.frz x)) is xs else none
  | _, _, _ => none
def tgS : Tg → D → Env → Option Env
  | .nm i, x, ρ => if i < ρ.length then some (ρ.set i (.frz x)) else none
  | .tps is, .tup xs, ρ => setsS ρ is xs
  | _, _, _ => none
/-- the value of e, kept by m -/
def keep (P : Par) (m : Md) (e : E) (ρ : Env) (s : Ss) : Option (Slot × Ss) := match m with
  | .pk => bnd (ev P e (vis ρ) s) fun d s' => if pur d && okc ρ s s' then some (.frz d, s') else none
  | .st => bnd (ev P e (hid ρ) s) fun d s' => if okc ρ s s' then some (.frz d, s') else none
  | .fr => bnd (ev P e (vis ρ) s) fun d s' => match d with
    | .lst ds => if purs ds && (fresh P e && okc ρ s s') then some (.own ds, s') else none
    | _ => none
  | .frs => bnd (ev P e (hid ρ) s) fun d s' => match d with
    | .lst ds => if fresh P e && okc ρ s s' then some (.own ds, s') else none
    | _ => none
def test (P : Par) (c : E) (ρ : Env) (s : Ss) : Option (Bool × Ss) := bnd (ev P c (vis ρ) s) fun d s' => if okc ρ s s' then (tru d).map (·, s') else none
def forF (step : D → Env → Ss → Option Out) : List D → Env → Ss → Option Out
  | [], ρ, s => some (.nx ρ s)
  | x :: r, ρ, s => match step x ρ s with
    | some (.nx ρ' s') => forF step r ρ' s'
    | some (.ct ρ' s') => forF step r ρ' s'
    | some (.bk ρ' s') => some (.nx ρ' s')
    | some (.rt f d s') => some (.rt f d s')
    | some (.ex d s') => some (.ex d s')
    | none => none
def whF (cond : Env → Ss → Option (Bool × Ss)) (step : Env → Ss → Option Out) : Nat → Env → Ss → Option Out
  | 0, _, _ => none
  | n + 1, ρ, s => match cond ρ s with
    | none => none
    | some (false, s1) => some (.nx ρ s1)
    | some (true, s1) => match step ρ s1 with
      | some (.nx ρ' s') => whF cond step n ρ' s'
      | some (.ct ρ' s') => whF cond step n ρ' s'
      | some (.bk ρ' s') => some (.nx ρ' s')
      | some (.rt f d s') => some (.rt f d s')
      | some (.ex d s') => some (.ex d s')
      | none => none
def exec (P : Par) : S → Env → Ss → Option Out
  | .skip, ρ, s => some (.nx ρ s)
  | .seq a b, ρ, s => match exec P a ρ s with
    | some (.nx ρ' s') => exec P b ρ' s'
    | o => o
  | .asg i m e, ρ, s => (keep P m e ρ s).bind fun q => (setS ρ i q.1).map fun ρ' => .nx ρ' q.2
  | .unp is m e, ρ, s => (keep P m e ρ s).bind fun q => match q.1 with
    | .frz (.tup xs) => (setsS ρ is xs).map fun ρ' => .nx ρ' q.2
    | _ => none
  | .app i m e, ρ, s => (keep P m e ρ s).bind fun q => match q.1, ρ[i]? with
    | .frz d, some (.own ds) => if ds.length < SZ then some (.nx (ρ.set i (.own (ds ++ [d]))) q.2) else none
    | _, _ => none
  | .ext i e, ρ, s => bnd (ev P e (vis ρ) s) fun d s' => match d, ρ[i]? with
    | .lst xs, some (.own ds) => if okc ρ s s' && purs xs && decide (ds.length + xs.length ≤ SZ) then some (.nx (ρ.set i (.own (ds ++ xs))) s') else none
    | _, _ => none
  | .dset o k e, ρ, s => bnd (ev P e (vis ρ) s) fun d s1 => bnd (ev P o (vis ρ) s1) fun l s2 => match l with
    | .loc c => match s2[c]? with
      | some cl => if okc ρ s s2 && pur d && chas cl k then some (.nx ρ (s2.set c (cput cl k d))) else none
      | none => none
    | _ => none
  | .expr e, ρ, s => bnd (ev P e (vis ρ) s) fun _ s' => if okc ρ s s' then some (.nx ρ s') else none
  | .ite c a b, ρ, s => match test P c ρ s with
    | some (true, s') => exec P a ρ s'
    | some (false, s') => exec P b ρ s'
    | none => none
  | .for_ k src tg b, ρ, s => bnd (ev P src (hid ρ) s) fun d s' => if okc ρ s s' then (items k d).bind fun xs => forF (fun x ρ s => (tgS tg x ρ).bind fun ρ' => exec P b ρ' s) xs ρ s' else none
  | .while_ c b, ρ, s => whF (test P c) (exec P b) P.N ρ s
  | .ret m e, ρ, s => (keep P m e ρ s).bind fun q => match q.1 with
    | .frz d => some (.rt false d q.2)
    | .own ds => some (.rt true (.lst ds) q.2)
    | .nil => none
  | .reto i, ρ, s => match ρ[i]? with
    | some (.own ds) => some (.rt true (.lst ds) s)
    | _ => none
  | .brk, ρ, s => some (.bk ρ s)
  | .cont, ρ, s => some (.ct ρ s)
  | .never, _, _ => none
  | .raise_ e, ρ, s => (keep P .pk e ρ s).bind fun q => match q.1 with
    | .frz d => some (.ex d q.2)
    | _ => none
structure Fn where
  np : Nat
  nl : Nat
  fr : Bool
  body : S
def runF (P : Par) (f : Fn) (args : List D) (s : Ss) : Option (D × Ss) :=
  if args.length = f.np then match exec P f.body (args.map .frz ++ List.replicate (f.nl - f.np) .nil) s with
    | some (.rt b d s') => if b = f.fr then some (d, s') else none
    | some (.nx _ s') => if f.fr then none else some (.non, s')
    | _ => none
  else none
/-- a def that may raise: its value, or what the exception bears -/
def runX (P : Par) (f : Fn) (args : List D) (s : Ss) : Option ((D ⊕ D) × Ss) :=
  if args.length = f.np then match exec P f.body (args.map .frz ++ List.replicate (f.nl - f.np) .nil) s with
    | some (.rt false d s') => some (.inl d, s')
    | some (.ex d s') => some (.inr d, s')
    | _ => none
  else none
end DL
set_option Elab.async false
set_option linter.all false
set_option maxRecDepth 100000
/-! What the data stands for in the abstract heap: Rep; Wd (a world); Gr (a world has grown). -/
namespace DL
open PySem L2
/-- the constants: K the written part, key the names of the cells' fields, tabA the written tables' addresses -/
structure Cn where
  K : PySem.W.Frag
  w : World
  key : Nat → Str
  nk : Nat
  tabA : Nat → Addr
  kinj : ∀ i j, i < nk → j < nk → key i = key j → i = j
mutual
inductive Rep (C : Cn) (θ : List Addr) (Γ : Hp) : V → D → Prop
  | non : Rep C θ Γ .non .non
  | bl (b : Bool) : Rep C θ Γ (.bl b) (.bl b)
  | int (i : Int) : Rep C θ Γ (.int i) (.int i)
  | str (x : Str) {l : List Nat} (h : x.cps.toList = l) : Rep C θ Γ (.str x) (.str l)
  | tup {a : Addr} {vs : List V} {ds : List D} (h : SqT C.K Γ a vs) (r : Reps C θ Γ vs ds) : Rep C θ Γ (.ref a) (.tup ds)
  | lst {a : Addr} {vs : List V} {ds : List D} (h : Γ a = some (.lst vs)) (r : Reps C θ Γ vs ds) : Rep C θ Γ (.ref a) (.lst ds)
  | loc {a : Addr} {i : Nat} (h : θ[i]? = some a) : Rep C θ Γ (.ref a) (.loc i)
  | lsk {a : Addr} {vs : List V} {ds : List D} (h : SqL C.K Γ a vs) (r : Reps C θ Γ vs ds) : Rep C θ Γ (.ref a) (.lsk ds)
inductive Reps (C : Cn) (θ : List Addr) (Γ : Hp) : List V → List D → Prop
  | nil : Reps C θ Γ [] []
  | cons {v : V} {d : D} {vs : List V} {ds : List D} (h : Rep C θ Γ v d) (r : Reps C θ Γ vs ds) : Reps C θ Γ (v :: vs) (d :: ds)
end
theorem Same.seqT {K : PySem.W.Frag} {H H' : Hp} {a : Addr} {xs : List V} (e : Same H H') (h : SqT K H a xs) : SqT K H' a xs := by
  rcases h with (h | ⟨o, h⟩) | h
  · exact .inl (.inl (e _ _ h))
  · exact .inl (.inr ⟨o, e _ _ h⟩)
  · exact .inr h
theorem sqT_of {K : PySem.W.Frag} {H : Hp} {a : Addr} {xs : List V} (h : H a = some (.tup xs)) : SqT K H a xs := .inl (.inl h)
theorem sqL_of {K : PySem.W.Frag} {H : Hp} {a : Addr} {xs : List V} (h : H a = some (.lst xs)) : SqL K H a xs := .inl (.inl h)
section
variable {C : Cn} {θ θ' : List Addr} {Γ Γ' : Hp}
mutual
theorem Rep.mono (e : Same Γ Γ') (t : ∀ (i : Nat) (a : Addr), θ[i]? = some a → θ'[i]? = some a) : ∀ {v : V} {d : D}, Rep C θ Γ v d → Rep C θ' Γ' v d
  | _, _, .non => .non
  | _, _, .bl b => .bl b
  | _, _, .int i => .int i
  | _, _, .str x h => .str x h
  | _, _, .tup h r => .tup (Same.seqT e h) (Reps.mono e t r)
  | _, _, .lst h r => .lst (e _ _ h) (Reps.mono e t r)
  | _, _, .loc h => .loc (t _ _ h)
  | _, _, .lsk h r => .lsk (e.seq h) (Reps.mono e t r)
theorem Reps.mono (e : Same Γ Γ') (t : ∀ (i : Nat) (a : Addr), θ[i]? = some a → θ'[i]? = some a) : ∀ {vs : List V} {ds : List D}, Reps C θ Γ vs ds → Reps C θ' Γ' vs ds
  | _, _, .nil => .nil
  | _, _, .cons h r => .cons (Rep.mono e t h) (Reps.mono e t r)
end
mutual
/-- data without lists leans on tuples alone -/
theorem Rep.ofPur (e : ∀ (a : Addr) (xs : List V), SqT C.K Γ a xs → SqT C.K Γ' a xs) : ∀ {v : V} {d : D}, pur d = true → Rep C θ Γ v d → Rep C θ Γ' v d
  | _, _, _, .non => .non
  | _, _, _, .bl b => .bl b
  | _, _, _, .int i => .int i
  | _, _, _, .str x h => .str x h
  | _, _, p, .tup h r => .tup (e _ _ h) (Reps.ofPur e p r)
  | _, _, p, .lst h r => by simp [pur] at p
  | _, _, _, .loc h => .loc h
  | _, _, p, .lsk h r => by simp [pur] at p
theorem Reps.ofPur (e : ∀ (a : Addr) (xs : List V), SqT C.K Γ a xs → SqT C.K Γ' a xs) : ∀ {vs : List V} {ds : List D}, purs ds = true → Reps C θ Γ vs ds → Reps C θ Γ' vs ds
  | _, _, _, .nil => .nil
  | _, _, p, .cons h r => by
    have q := Bool.and_eq_true_iff.mp p
    exact .cons (Rep.ofPur e q.1 h) (Reps.ofPur e q.2 r)
end
theorem Reps.length {vs : List V} : ∀ {ds : List D}, Reps C θ Γ vs ds → vs.length = ds.length := by
  induction vs with
  | nil => intro ds h; cases h; rfl
  | cons v vs ih => intro ds h; cases h with | cons _ r => simp [ih r]
theorem Reps.get {vs : List V} : ∀ {ds : List D} {i : Nat} {d : D}, Reps C θ Γ vs ds → ds[i]? = some d → ∃ v, vs[i]? = some v ∧ Rep C θ Γ v d := by
  induction vs with
  | nil => intro ds i d h e; cases h; simp at e
  | cons v vs ih =>
    intro ds i d h e
    cases h with
    | cons h r => cases i with
      | zero => simp at e; subst e; exact ⟨v, rfl, h⟩
      | succ i => simpa using ih r (by simpa using e)
theorem Reps.getV {vs : List V} : ∀ {ds : List D} {i : Nat} {v : V}, Reps C θ Γ vs ds → vs[i]? = some v → ∃ d, ds[i]? = some d ∧ Rep C θ Γ v d := by
  induction vs with
  | nil => intro ds i d h e; simp at e
  | cons v vs ih =>
    intro ds i d h e
    cases h with
    | cons h r => cases i with
      | zero => simp at e; subst e; exact ⟨_, rfl, h⟩
      | succ i => simpa using ih r (by simpa using e)
theorem Reps.append {vs ws : List V} : ∀ {ds es : List D}, Reps C θ Γ vs ds → Reps C θ Γ ws es → Reps C θ Γ (vs ++ ws) (ds ++ es) := by
  induction vs with
  | nil => intro ds es h k; cases h; exact k
  | cons v vs ih => intro ds es h k; cases h with | cons h r => exact .cons h (ih r k)
theorem Reps.drop {vs : List V} : ∀ {ds : List D} (n : Nat), Reps C θ Γ vs ds → Reps C θ Γ (vs.drop n) (ds.drop n) := by
  induction vs with
  | nil => intro ds n h; cases h; simp; exact .nil
  | cons v vs ih => intro ds n h; cases h with
    | cons h r => cases n with
      | zero => exact .cons h r
      | succ n => exact ih n r
theorem Reps.take {vs : List V} : ∀ {ds : List D} (n : Nat), Reps C θ Γ vs ds → Reps C θ Γ (vs.take n) (ds.take n) := by
  induction vs with
  | nil => intro ds n h; cases h; simp; exact .nil
  | cons v vs ih => intro ds n h; cases h with
    | cons h r => cases n with
      | zero => exact .nil
      | succ n => exact .cons h (ih n r)
theorem Rep.notNone {a : Addr} {d : D} (h : Rep C θ Γ (.ref a) d) : True := trivial
end
/-- a cell's fields -/
abbrev CRel (C : Cn) (θ : List Addr) (B Γ : Hp) (kvs : List (Key × V)) (c : Cell) : Prop :=
  Paired (fun (p : Key × V) (q : Nat × D) => p.1 = .inr (C.key q.1) ∧ q.1 < C.nk ∧ (Rep C θ B p.2 q.2 ∨ (pur q.2 = true ∧ Rep C θ Γ p.2 q.2))) kvs c
structure Wd (C : Cn) (θ : List Addr) (B Γ H : Hp) (s : Ss) : Prop where
  gh : Same Γ H
  bg : Same B Γ
  len : θ.length = s.length
  nd : θ.Nodup
  ap : ∀ a ∈ θ, Γ a = none
  cl : ∀ (i : Nat) (a : Addr) (c : Cell), θ[i]? = some a → s[i]? = some c → c.length < 1000 ∧ ∃ kvs, H a = some (.dK kvs) ∧ CRel C θ B Γ kvs c
structure Gr (C : Cn) (θ : List Addr) (B Γ H : Hp) (s : Ss) (θ' : List Addr) (B' Γ' H' : Hp) (s' : Ss) : Prop where
  wd : Wd C θ' B' Γ' H' s'
  gg : Same Γ Γ'
  kp : ∀ a o, H a = some o → a ∉ θ → H' a = some o
  nw : ∀ a, Γ a = none → H a ≠ none → Γ' a = none
  th : ∀ (i : Nat) (a : Addr), θ[i]? = some a → θ'[i]? = some a
  tn : ∀ a, a ∈ θ' → a ∈ θ ∨ H a = none
  sm : s'.length = s.length → θ' = θ ∧ B' = B
  le : s.length ≤ s'.length
section
variable {C : Cn} {θ θ1 θ2 : List Addr} {B Γ H B1 Γ1 H1 B2 Γ2 H2 : Hp} {s s1 s2 : Ss}
theorem Wd.at (W : Wd C θ B Γ H s) {a : Addr} (h : a ∈ θ) : ∃ kvs, H a = some (.dK kvs) := by
  obtain ⟨i, hi, e⟩ := List.mem_iff_getElem.mp h
  have hs : i < s.length := by rw [← W.len]; exact hi
  obtain ⟨_, kvs, e2, _⟩ := W.cl i a s[i] (by rw [List.getElem?_eq_getElem hi, e]) (by rw [List.getElem?_eq_getElem hs])
  exact ⟨kvs, e2⟩
theorem Wd.free (W : Wd C θ B Γ H s) {a : Addr} (h : H a = none) : a ∉ θ := fun m => by
  obtain ⟨_, e⟩ := W.at m
  rw [h] at e; cases e
theorem Wd.gfree (W : Wd C θ B Γ H s) {a : Addr} (h : H a = none) : Γ a = none := Same.free W.gh h
theorem Gr.refl (W : Wd C θ B Γ H s) : Gr C θ B Γ H s θ B Γ H s := ⟨W, Same.refl _, fun _ _ e _ => e, fun _ e _ => e, fun _ _ e => e, fun _ m => .inl m, fun _ => ⟨rfl, rfl⟩, Nat.le_refl _⟩
theorem Gr.keepN (g : Gr C θ B Γ H s θ1 B1 Γ1 H1 s1) {a : Addr} (h : H a ≠ none) : H1 a ≠ none := by
  cases e : H a with
  | none => exact absurd e h
  | some o =>
    by_cases m : a ∈ θ
    · obtain ⟨i, hi, e⟩ := List.mem_iff_getElem.mp m
      have m' : a ∈ θ1 := List.mem_of_getElem? (g.th i a (by rw [List.getElem?_eq_getElem hi, e]))
      obtain ⟨_, e⟩ := g.wd.at m'
      rw [e]; exact fun z => nomatch z
    · rw [g.kp a o e m]; exact fun z => nomatch z
theorem Gr.trans (g : Gr C θ B Γ H s θ1 B1 Γ1 H1 s1) (k : Gr C θ1 B1 Γ1 H1 s1 θ2 B2 Γ2 H2 s2) : Gr C θ B Γ H s θ2 B2 Γ2 H2 s2 where
  wd := k.wd
  gg := g.gg.trans k.gg
  kp := fun a o e m => by
    refine k.kp a o (g.kp a o e m) fun m1 => ?_
    rcases g.tn a m1 with z | z
    · exact m z
    · rw [e] at z; cases z
  nw := fun a e n => k.nw a (g.nw a e n) (g.keepN n)
  th := fun i a e => k.th i a (g.th i a e)
  tn := fun a m => by
    rcases k.tn a m with z | z
    · exact g.tn a z
    · by_cases m0 : a ∈ θ
      · exact .inl m0
      · refine .inr ?_
        cases e : H a with
        | none => rfl
        | some o => exact absurd z (g.keepN (by rw [e]; exact fun z => nomatch z))
  sm := fun e => by
    have h1 := g.le
    have h2 := k.le
    obtain ⟨rfl, rfl⟩ := g.sm (by omega)
    exact k.sm (by omega)
  le := Nat.le_trans g.le k.le
theorem Gr.rep (g : Gr C θ B Γ H s θ1 B1 Γ1 H1 s1) {v : V} {d : D} (r : Rep C θ Γ v d) : Rep C θ1 Γ1 v d := r.mono g.gg g.th
theorem Gr.reps (g : Gr C θ B Γ H s θ1 B1 Γ1 H1 s1) {v : List V} {d : List D} (r : Reps C θ Γ v d) : Reps C θ1 Γ1 v d := r.mono g.gg g.th
theorem same_upd {o : HO} {p : Addr} (h : H p = none) : Same H (upd H p o) := fun a u e => by
  rw [upd_ne (ne_of_none e h)]; exact e
theorem same_upd2 {o : HO} {p : Addr} (h : Same Γ H) (hp : H p = none) : Same Γ (upd H p o) := h.trans (same_upd hp)
theorem CRel.mono {θ' : List Addr} {kvs : List (Key × V)} {c : Cell} (b : Same B B1) (e : Same Γ Γ1) (t : ∀ (i : Nat) (a : Addr), θ[i]? = some a → θ'[i]? = some a) (h : CRel C θ B Γ kvs c) : CRel C θ' B1 Γ1 kvs c :=
  Paired.mapP h fun p q z => ⟨z.1, z.2.1, z.2.2.elim (fun r => .inl (r.mono b t)) fun r => .inr ⟨r.1, r.2.mono e t⟩⟩
/-- a new object beside: it may be seen (Γ) or not -/
theorem Wd.put (W : Wd C θ B Γ H s) {p : Addr} {o : HO} (h : H p = none) : Wd C θ B Γ (upd H p o) s where
  gh := same_upd2 W.gh h
  bg := W.bg
  len := W.len
  nd := W.nd
  ap := W.ap
  cl := fun i a c e1 e2 => by
    obtain ⟨l, kvs, e, r⟩ := W.cl i a c e1 e2
    exact ⟨l, kvs, by rw [upd_ne (ne_of_none e h)]; exact e, r⟩
theorem Wd.see (W : Wd C θ B Γ H s) {p : Addr} {o : HO} (h : H p = some o) (hg : Γ p = none) (ht : p ∉ θ) : Wd C θ B (upd Γ p o) H s where
  gh := fun a u e => by
    by_cases q : a = p
    · subst q; rw [upd_same] at e; rw [h]; exact e
    · rw [upd_ne q] at e; exact W.gh a u e
  bg := W.bg.trans (same_upd hg)
  len := W.len
  nd := W.nd
  ap := fun a m => by rw [upd_ne (fun z => ht (by rw [← z]; exact m))]; exact W.ap a m
  cl := fun i a c e1 e2 => by
    obtain ⟨l, kvs, e, r⟩ := W.cl i a c e1 e2
    exact ⟨l, kvs, e, r.mono (Same.refl _) (same_upd hg) fun _ _ z => z⟩
theorem Gr.put (W : Wd C θ B Γ H s) {p : Addr} {o : HO} (h : H p = none) : Gr C θ B Γ H s θ B Γ (upd H p o) s :=
  ⟨W.put h, Same.refl _, fun a u e _ => by rw [upd_ne (ne_of_none e h)]; exact e, fun _ e _ => e, fun _ _ e => e, fun _ m => .inl m, fun _ => ⟨rfl, rfl⟩, Nat.le_refl _⟩
/-- what is new (since H0) may be seen -/
theorem Gr.see (g : Gr C θ B Γ H s θ1 B1 Γ1 H1 s1) {p : Addr} {o : HO} (h0 : H p = none) (h : H1 p = some o) (hg : Γ1 p = none) (ht : p ∉ θ1) : Gr C θ B Γ H s θ1 B1 (upd Γ1 p o) H1 s1 :=
  ⟨g.wd.see h hg ht, g.gg.trans (same_upd hg), g.kp, fun a e n => by
    rw [upd_ne (fun z => n (by rw [z]; exact h0))]; exact g.nw a e n, g.th, g.tn, g.sm, g.le⟩
theorem Gr.new (W : Wd C θ B Γ H s) {p : Addr} {o : HO} (h : H p = none) : Gr C θ B Γ H s θ B (upd Γ p o) (upd H p o) s :=
  (Gr.put W h).see h upd_same (W.gfree h) (W.free h)
end
/-- what is wanted behind an expression -/
def Post (C : Cn) (θ : List Addr) (B Γ H : Hp) (s s' : Ss) (d : D) (Q : VK) : Prop := ∀ v θ' B' Γ' H', Gr C θ B Γ H s θ' B' Γ' H' s' → Rep C θ' Γ' v d → Q v H'
/-- .. whose value is a new list -/
def PostF (C : Cn) (θ : List Addr) (B Γ H : Hp) (s s' : Ss) (ds : List D) (Q : VK) : Prop := ∀ p vs θ' B' Γ' H', Gr C θ B Γ H s θ' B' Γ' H' s' → H p = none → H' p = some (.lst vs) → Γ' p = none → p ∉ θ' → Reps C θ' Γ' vs ds → Q (.ref p) H'
def PostT (C : Cn) (θ : List Addr) (B Γ H : Hp) (s s' : Ss) (Q : Hp → Prop) : Prop := ∀ θ' B' Γ' H', Gr C θ B Γ H s θ' B' Γ' H' s' → Q H'
def PostA (C : Cn) (θ : List Addr) (B Γ H : Hp) (s s' : Ss) (ds : List D) (Q : List V → Hp → Prop) : Prop := ∀ vs θ' B' Γ' H', Gr C θ B Γ H s θ' B' Γ' H' s' → Reps C θ' Γ' vs ds → Q vs H'
theorem Post.f {C : Cn} {θ : List Addr} {B Γ H : Hp} {s s' : Ss} {ds : List D} {Q : VK} (h : Post C θ B Γ H s s' (.lst ds) Q) : PostF C θ B Γ H s s' ds Q := fun p vs θ' B' Γ' H' g h0 h1 hg ht r =>
  h _ _ _ _ _ (g.see h0 h1 hg ht) (.lst upd_same (r.mono (same_upd hg) fun _ _ z => z))
/-- the values by slot stand for the data by slot -/
structure EnvR (C : Cn) (θ : List Addr) (Γ : Hp) (σ : St) (ρ : Vw) : Prop where
  len : σ.length = ρ.length
  at_ : ∀ (i : Nat) (d : D), ρ[i]? = some (some d) → ∃ v, σ[i]? = some (some v) ∧ Rep C θ Γ v d
theorem EnvR.mono {C : Cn} {θ θ' : List Addr} {Γ Γ' : Hp} {σ : St} {ρ : Vw} (e : Same Γ Γ') (t : ∀ (i : Nat) (a : Addr), θ[i]? = some a → θ'[i]? = some a) (R : EnvR C θ Γ σ ρ) : EnvR C θ' Γ' σ ρ :=
  ⟨R.len, fun i d h => by
    obtain ⟨v, e1, r⟩ := R.at_ i d h
    exact ⟨v, e1, r.mono e t⟩⟩
theorem Gr.env {C : Cn} {θ θ1 : List Addr} {B Γ H B1 Γ1 H1 : Hp} {s s1 : Ss} {σ : St} {ρ : Vw} (g : Gr C θ B Γ H s θ1 B1 Γ1 H1 s1) (R : EnvR C θ Γ σ ρ) : EnvR C θ1 Γ1 σ ρ := R.mono g.gg g.th
/-- what a def promises: its meaning upon the data -/
def spD (C : Cn) (φ : List D → Ss → Option (D × Ss)) (fr : Bool) : Sp := fun vs H Q _ => ∃ θ B Γ s ds d s', Wd C θ B Γ H s ∧ Reps C θ Γ vs ds ∧ φ ds s = some (d, s') ∧
  match fr with
  | true => ∃ xs, d = .lst xs ∧ PostF C θ B Γ H s s' xs Q
  | false => Post C θ B Γ H s s' d Q
end DL
set_option Elab.async false
set_option linter.all false
set_option maxRecDepth 100000
/-! The readings of the small language: rdE (a value), rdT (a test), rdA (arguments), rdS (a statement). -/
namespace DL
open PySem L2
def cps (l : List Nat) : Str := ⟨l.toArray⟩
theorem cps_toList (l : List Nat) : (cps l).cps.toList = l := by simp [cps]
theorem cps_length (l : List Nat) : (cps l).length = l.length := by simp [cps, Str.length]
def tyN : Nat → String
  | 0 => "int" | 1 => "bool" | 2 => "str" | 3 => "tuple" | 4 => "list" | _ => "dict"
abbrev rAddA : R2 := fun x y H Q => (∃ i j, x = .int i ∧ y = .int j ∧ Q (.int (i + j)) H) ∨ ((∃ i j, x = .str i ∧ y = .str j ∧ i.length + j.length ≤ sizeLine ∧ Q (.str (i ++ j)) H) ∨ rCat x y H Q)
def rBop : Bop → R2
  | .add => rAddA
  | .sub => rI0 fun i j => .int (i - j)
  | .mul => rI CMul fun i j => .int (i * j)
  | .mod => rI (fun _ j => 0 < j) fun i j => .int (i % j)
  | .fdiv => rI CDiv fun i j => .int (i / j)
abbrev rInA (K : PySem.W.Frag) : R2 := fun x y H Q => (∃ (c : Nat) (z : Str), x = .str ⟨#[c]⟩ ∧ y = .str z ∧ Q (.bl (decide (c ∈ z.cps.toList))) H) ∨ rIn K false x y H Q
abbrev rNotInA (K : PySem.W.Frag) : R2 := fun x y H Q => (∃ (c : Nat) (z : Str), x = .str ⟨#[c]⟩ ∧ y = .str z ∧ Q (.bl (!decide (c ∈ z.cps.toList))) H) ∨ rIn K true x y H Q
def rCop (K : PySem.W.Frag) : Cop → R2
  | .eq => rEq
  | .ne => rNe
  | .lt => rI0 fun i j => .bl (decide (i < j))
  | .le => rI0 fun i j => .bl (decide (i ≤ j))
  | .gt => rI0 fun i j => .bl (decide (j < i))
  | .ge => rI0 fun i j => .bl (decide (j ≤ i))
  | .isin => rInA K
  | .notin => rNotInA K
  | .isN => fun x y H Q => y = .non ∧ Q (.bl (decide (x = .non))) H
  | .isnotN => fun x y H Q => y = .non ∧ Q (.bl (!decide (x = .non))) H
abbrev rIntA : List V → Hp → VK → Prop := fun xs H Q => ((∃ i, xs = [.int i] ∧ Q (.int i) H) ∨ ∃ k, xs = [.bl k] ∧ Q (.int (if k then 1 else 0)) H) ∨ ∃ a n, xs = [.str a] ∧ PySem.intText? a = some n ∧ a.length ≤ 640 ∧ Q (.int n) H
abbrev rStrA : List V → Hp → VK → Prop := fun xs H Q => (∃ i, xs = [.int i] ∧ i.natAbs.log2 < 1920 ∧ Q (.str (toString i)) H) ∨ ∃ a, xs = [.str a] ∧ Q (.str a) H
def rBi (K : PySem.W.Frag) : Bi → List V → Hp → VK → Prop
  | .len => fun xs H Q => ∃ x n, xs = [x] ∧ LenV K x H n ∧ Q (.int n) H
  | .int => rIntA
  | .str => rStrA
  | .abs => fun xs H Q => ∃ i, xs = [.int i] ∧ Q (.int (if i < 0 then -i else i)) H
  | .tuple => fun xs H Q => ∃ p ys, xs = [.ref p] ∧ ((SqL K H p ys ∧ ∀ l, H l = none → Q (.ref l) (upd H l (.tup ys))) ∨ (SqT K H p ys ∧ Q (.ref p) H))
  | .all => rAll K
  | .sum => rSum K
  | .isi _ => rIsi K
def rMe (K : PySem.W.Frag) : Me → V → List V → Hp → VK → Prop
  | .join => fun x xs H Q => ∃ a p, ∃ ys : List Str, x = .str a ∧ xs = [.ref p] ∧ (SqL K H p (ys.map V.str) ∨ SqT K H p (ys.map V.str)) ∧ (ys.map (·.length)).sum + ys.length * a.length ≤ 16777216 ∧ Q (.str (Txt.join a ys)) H
  | .split => fun x xs H Q => ∃ a b, x = .str a ∧ xs = [.str b] ∧ (b.length == 0) = false ∧ a.length + 2 ≤ sizeLine ∧ rNewStrs (Txt.split a b) H Q
  | .find => fun x xs H Q => ∃ (a b : Str) (i : Int), x = .str a ∧ xs = [.str b, .int i] ∧ Q (.int (Txt.find3 a b i)) H
def rSl (K : PySem.W.Frag) : Itk → V → Option Int → Option Int → Hp → VK → Prop
  | .tup => rSlT K
  | .lst => rSlL K
  | .str => rSlS
  | _ => fun _ _ _ _ _ => False
def gsN : List Nat → TGs
  | [] => gNil
  | i :: r => gCons (gName i) (gsN r)
def rdG (K : PySem.W.Frag) : Tg → TG
  | .nm i => gName i
  | .tps is => gTup K is.length (gsN is)
def rKin (K : PySem.W.Frag) (d : Addr) : Bool → R2
  | false => fun x y H Q => ∃ (z : Str) (r : Option Value), x = .str z ∧ y = .ref d ∧ PySem.W.nsIn K d z = some r ∧ Q (.bl r.isSome) H
  | true => fun x y H Q => ∃ (z : Str) (r : Option Value), x = .str z ∧ y = .ref d ∧ PySem.W.nsIn K d z = some r ∧ Q (.bl (!r.isSome)) H
/-- zip(a text or a list, a list) -/
def iZipS (K : PySem.W.Frag) (ta : TA) : TI := fun σ H R => ta σ H fun vs H1 => ∃ z b ys, vs = [.str z, .ref b] ∧ SqL K H1 b ys ∧
  R ⟨fun i H => ∃ (c : Nat) (ys : List V) (y : V), SqL K H b ys ∧ z.cps.toList[i]? = some c ∧ ys[i]? = some y,
    fun i H v H' => ∃ T c y, v = .ref T ∧ H T = none ∧ H' = upd H T (.tup [.str ⟨#[c]⟩, y]) ∧ z.cps.toList[i]? = some c ∧ ∀ ys, SqL K H b ys → ys[i]? = some y,
    fun i H => ∃ ys : List V, SqL K H b ys ∧ i ≤ ys.length ∧ (z.cps.toList.length ≤ i ∨ ys.length ≤ i)⟩ H1
variable (C : Cn) (P : Par)
abbrev spOf (f : Nat) : Sp := spD C (P.Φ f) (P.fr f)
structure Rd where
  te : TE
  tt : TT
  ta : TA
  tl : List TE := [fun _ _ _ => True]
def mkR (K : PySem.W.Frag) (te : TE) : Rd := { te := te, tt := fun σ H Q => te σ H fun x H' => ∃ k, TruV K x H' k ∧ Q k H', ta := fun _ _ _ => True }
def rdO (lo : E) (te : TE) : TO := match lo with
  | .nop => tNoPart
  | _ => tPart te
def rdC (c : E) (tt : TT) : TT := match c with
  | .nop => tYes
  | _ => tt
def rdBa (f : Bi) : TA := match f with
  | .isi t => tCons (tC (.ty (tyN t))) tNil
  | _ => tNil
def rdIt (K : PySem.W.Frag) (k : Itk) (te : TE) (ta : TA) : TI := match k with
  | .lst => iList K te
  | .tup => iTup K te
  | .str => iStr te
  | .rng1 => iRng1 ta
  | .rng2 => iRng2 ta
  | .rng3 => iRng3 ta
  | .zip => iZipS K ta
  | .zipL => iZip K ta
def keyP (C : Cn) : List Nat → List TE → List (TE × TE)
  | k :: ks, t :: ts => (tC (.str (C.key k)), t) :: keyP C ks ts
  | _, _ => []
def rd : E → Rd
  | .nop => mkR C.K (tC .non)
  | .nil => { mkR C.K (fun _ H Q => ∀ p, H p = none → Q (.ref p) (upd H p (.tup []))) with ta := tNil, tl := [] }
  | .cons a r => { mkR C.K (fun σ H Q => (tCons (rd a).te (rd r).ta) σ H fun vs H1 => ∀ p, H1 p = none → Q (.ref p) (upd H1 p (.tup vs))) with ta := tCons (rd a).te (rd r).ta, tl := (rd a).te :: (rd r).tl }
  | .var i => mkR C.K (tVar i)
  | .int i => mkR C.K (tC (.int i))
  | .str l => mkR C.K (tC (.str (cps l)))
  | .bl b => mkR C.K (tC (.bl b))
  | .non => mkR C.K (tC .non)
  | .bin o a b => mkR C.K (tOp (rBop o) (rd a).te (rd b).te)
  | .cmp o a b => { mkR C.K (tOp (rCop C.K o) (rd a).te (rd b).te) with tt := tTest (tOp (rCop C.K o) (rd a).te (rd b).te) }
  | .and_ a b => { mkR C.K (tAndT C.K (rd a).te (rd b).te) with tt := tAnd (rd a).tt (rd b).tt }
  | .or_ a b => { mkR C.K (tOrT C.K (rd a).te (rd b).te) with tt := tOr (rd a).tt (rd b).tt }
  | .not_ a => { mkR C.K (tNotT C.K (rd a).te) with tt := tNot (rd a).tt }
  | .ite c a b => mkR C.K (tIf (rd c).tt (rd a).te (rd b).te)
  | .tup a => mkR C.K (tTup (rd a).ta)
  | .lst a => mkR C.K (tLst (rd a).ta)
  | .idx a b => mkR C.K (tOp (rIx C.K) (rd a).te (rd b).te)
  | .slc k a lo hi => mkR C.K (tSl (rSl C.K k) (rd a).te (rdO lo (rd lo).te) (rdO hi (rd hi).te))
  | .bi f a => mkR C.K (tCB (rBi C.K f) (tCons (rd a).te (rdBa f)))
  | .me m o a => mkR C.K (tBM C.K "str" (rMe C.K m) (rd o).te (rd a).ta)
  | .kget t k => mkR C.K (tOp (rIxD C.K C.w) (tC (.ref (C.tabA t))) (rd k).te)
  | .kin t neg k => { mkR C.K (tOp (rKin C.K (C.tabA t) neg) (rd k).te (tC (.ref (C.tabA t)))) with tt := tTest (tOp (rKin C.K (C.tabA t) neg) (rd k).te (tC (.ref (C.tabA t)))) }
  | .dget o k => mkR C.K (tDGet (rd o).te (tC (.str (C.key k))))
  | .call f a => mkR C.K (tCall (spOf C P f) [] E0 (rd a).ta)
  | .cel ks a => mkR C.K (tDisp (keyP C ks (rd a).tl))
  | .comp k src tg own c e => mkR C.K (tLc (rdIt C.K k (rd src).te (rd src).ta) (rdG C.K tg) (rdC c (rd c).tt) (rd e).te own)
variable (Wx : VK)
def rdS : S → TS
  | .skip => tNext
  | .seq a b => tSeq (rdS a) (rdS b)
  | .asg i _ e => tAsg (rd C P e).te (gName i)
  | .unp is _ e => tAsg (rd C P e).te (gTup C.K is.length (gsN is))
  | .app i _ e => tDrop (tBM C.K "list" rAppend (tVar i) (tCons (rd C P e).te tNil))
  | .ext i e => tDrop (tBM C.K "list" rExtend (tVar i) (tCons (rd C P e).te tNil))
  | .dset o k e => sDPut (rd C P o).te (tC (.str (C.key k))) (rd C P e).te
  | .expr e => tDrop (rd C P e).te
  | .ite c a b => tIfS (rd C P c).tt (rdS a) (rdS b)
  | .for_ k src tg b => tFor (rdIt C.K k (rd C P src).te (rd C P src).ta) (rdG C.K tg) (rdS b)
  | .while_ c b => tWhile (rd C P c).tt (rdS b)
  | .ret _ e => tRet (rd C P e).te
  | .reto i => tRet (tVar i)
  | .brk => tBreak
  | .cont => tCont
  | .never => tNever
  | .raise_ e => fun _ σ H => (rd C P e).te σ H Wx
end DL
set_option Elab.async false
set_option linter.all false
set_option maxRecDepth 100000
set_option maxHeartbeats 1000000
/-! The readings hold where the meaning is defined: values, tests, arguments (OkE, OkF, OkT, OkA). -/
namespace DL
open PySem L2
theorem SZ_eq : SZ = sizeLine := by rw [sizeLine_eq]; rfl
theorem bnd_inv {β : Type} {x : Option (D × Ss)} {f : D → Ss → Option β} {y : β} (h : bnd x f = some y) : ∃ d s, x = some (d, s) ∧ f d s = some y := by
  cases x with
  | none => simp [bnd] at h
  | some q => exact ⟨q.1, q.2, rfl, h⟩
theorem map_inv {α β : Type} {x : Option α} {f : α → β} {y : β} (h : x.map f = some y) : ∃ a, x = some a ∧ f a = y := by
  cases x with
  | none => simp at h
  | some a => exact ⟨a, rfl, by simpa using h⟩
theorem bind_inv {α β : Type} {x : Option α} {f : α → Option β} {y : β} (h : x.bind f = some y) : ∃ a, x = some a ∧ f a = some y := by
  cases x with
  | none => simp at h
  | some a => exact ⟨a, rfl, h⟩
theorem pair_inv {d : D} {s s' : Ss} {x : Option D} {d' : D} (h : x.map (fun z => (z, s)) = some (d', s')) : x = some d' ∧ s = s' := by
  obtain ⟨a, e, q⟩ := map_inv h
  cases q
  exact ⟨e, rfl⟩
/-- the written tables are what the meaning takes them for -/
def TabOk (C : Cn) (P : Par) : Prop := ∀ t, t < P.nt → ∀ z : Str, (∀ d, tget (P.T t) z.cps.toList = some d → ∃ v, KDct C.K C.w (C.tabA t) z v ∧ ∀ θ Γ, Rep C θ Γ v d) ∧
  ∃ r, PySem.W.nsIn C.K (C.tabA t) z = some r ∧ r.isSome = (tget (P.T t) z.cps.toList).isSome
def FrOk (P : Par) : Prop := ∀ f xs s d s', P.fr f = true → P.Φ f xs s = some (d, s') → ∃ ds, d = .lst ds
section
variable (C : Cn) (P : Par)
def OkE (e : E) : Prop := ∀ ρ σ θ B Γ H s d s' Q, Wd C θ B Γ H s → EnvR C θ Γ σ ρ → ev P e ρ s = some (d, s') → Post C θ B Γ H s s' d Q → (rd C P e).te σ H Q
def OkF (e : E) : Prop := fresh P e = true → ∀ ρ σ θ B Γ H s ds s' Q, Wd C θ B Γ H s → EnvR C θ Γ σ ρ → ev P e ρ s = some (.lst ds, s') → PostF C θ B Γ H s s' ds Q → (rd C P e).te σ H Q
def OkT (e : E) : Prop := ∀ ρ σ θ B Γ H s d s' b Q, Wd C θ B Γ H s → EnvR C θ Γ σ ρ → ev P e ρ s = some (d, s') → tru d = some b → PostT C θ B Γ H s s' (Q b) → (rd C P e).tt σ H Q
def OkA (e : E) : Prop := ∀ ρ σ θ B Γ H s ds s' Q, Wd C θ B Γ H s → EnvR C θ Γ σ ρ → ev P e ρ s = some (.tup ds, s') → PostA C θ B Γ H s s' ds Q → (rd C P e).ta σ H Q
end
section
variable {C : Cn} {P : Par} {θ : List Addr} {Γ H : Hp}
theorem isEmpty_reps {vs : List V} {ds : List D} (r : Reps C θ Γ vs ds) : (!ds.isEmpty) = !vs.isEmpty := by
  cases r <;> rfl
theorem str_length {x : Str} {l : List Nat} (h : x.cps.toList = l) : x.length = l.length := by
  rw [← h]; simp [Str.length]
theorem str_eq {x : Str} {l : List Nat} (h : x.cps.toList = l) : x = cps l := by
  obtain ⟨a⟩ := x
  subst h
  simp [cps]
theorem tru_of {v : V} {d : D} {k : Bool} (r : Rep C θ Γ v d) (e : Same Γ H) (h : tru d = some k) : TruV C.K v H k := by
  cases r with
  | non => simp [tru] at h; subst h; rfl
  | bl b => simp [tru] at h; subst h; rfl
  | int i => simp only [tru, Option.some.injEq] at h; subst h; rfl
  | str x hx =>
    rename_i l
    have hl := str_length hx
    simp only [tru] at h
    split at h
    · rename_i q
      refine ⟨by rw [hl, ← SZ_eq]; exact q, ?_⟩
      cases h
      rw [hl]
      cases l with
      | nil => rfl
      | cons a r => simp; omega
    · cases h
  | tup hs r =>
    simp only [tru, Option.some.injEq] at h
    refine .inr (.inl ⟨_, Same.seqT e hs, ?_⟩)
    rw [← h]; exact isEmpty_reps r
  | lst hs r =>
    simp only [tru, Option.some.injEq] at h
    refine .inl ⟨_, sqL_of (e _ _ hs), ?_⟩
    rw [← h]; exact isEmpty_reps r
  | loc hs => simp [tru] at h
  | lsk hs r => simp [tru] at h
end
section
variable {C : Cn} {P : Par}
theorem okT_mk {e : E} (h : OkE C P e) (ht : (rd C P e).tt = fun σ H Q => (rd C P e).te σ H fun x H' => ∃ k, TruV C.K x H' k ∧ Q k H') : OkT C P e := by
  intro ρ σ θ B Γ H s d s' b Q W R he hb hq
  rw [ht]
  exact h ρ σ θ B Γ H s d s' _ W R he fun v θ' B' Γ' H' g r => ⟨b, tru_of r g.wd.gh hb, hq _ _ _ _ g⟩
theorem okA_none {e : E} (ht : (rd C P e).ta = fun _ _ _ => True) : OkA C P e := by
  intro ρ σ θ B Γ H s d s' Q W R he hq
  rw [ht]
  trivial
variable {θ : List Addr} {B Γ H : Hp} {s s1 s2 s' : Ss} {σ : St} {ρ : Vw} {Q : VK}
theorem tOp_ok {a b : E} {r : R2} {x y : D} (ha : OkE C P a) (hb : OkE C P b) (W : Wd C θ B Γ H s) (R : EnvR C θ Γ σ ρ) (e1 : ev P a ρ s = some (x, s1)) (e2 : ev P b ρ s1 = some (y, s2))
    (hr : ∀ vx vy θ' B' Γ' H', Gr C θ B Γ H s θ' B' Γ' H' s2 → Rep C θ' Γ' vx x → Rep C θ' Γ' vy y → r vx vy H' Q) : tOp r (rd C P a).te (rd C P b).te σ H Q :=
  ha _ _ _ _ _ _ _ _ _ _ W R e1 fun v1 θ1 B1 Γ1 H1 g1 r1 => hb _ _ _ _ _ _ _ _ _ _ g1.wd (g1.env R) e2 fun v2 θ2 B2 Γ2 H2 g2 r2 => hr v1 v2 _ _ _ _ (g1.trans g2) (g2.rep r1) r2
theorem Gr.free0 {θ1 : List Addr} {B1 Γ1 H1 : Hp} (g : Gr C θ B Γ H s θ1 B1 Γ1 H1 s1) {p : Addr} (h : H1 p = none) : H p = none := by
  cases e : H p with
  | none => rfl
  | some o => exact absurd h (g.keepN (by rw [e]; exact fun z => nomatch z))
/-- a new list is laid -/
theorem postF_new {θ1 : List Addr} {B1 Γ1 H1 : Hp} {ds : List D} {vs : List V} {p : Addr} (g : Gr C θ B Γ H s θ1 B1 Γ1 H1 s') (hq : PostF C θ B Γ H s s' ds Q) (hp : H1 p = none) (r : Reps C θ1 Γ1 vs ds) : Q (.ref p) (upd H1 p (.lst vs)) :=
  hq p vs _ _ _ _ (g.trans (Gr.put g.wd hp)) (g.free0 hp) upd_same (g.wd.gfree hp) (g.wd.free hp) r
theorem post_tup {θ1 : List Addr} {B1 Γ1 H1 : Hp} {ds : List D} {vs : List V} {p : Addr} (g : Gr C θ B Γ H s θ1 B1 Γ1 H1 s') (hq : Post C θ B Γ H s s' (.tup ds) Q) (hp : H1 p = none) (r : Reps C θ1 Γ1 vs ds) : Q (.ref p) (upd H1 p (.tup vs)) :=
  hq _ _ _ _ _ (g.trans (Gr.new g.wd hp)) (.tup (sqT_of upd_same) (r.mono (same_upd (g.wd.gfree hp)) fun _ _ z => z))
/-! ### operators -/
theorem bop_ok {o : Bop} {x y d : D} {vx vy : V} {θ1 : List Addr} {B1 Γ1 H1 : Hp} (h : bop o x y = some d) (hd : ∀ ds, d ≠ .lst ds) (g : Gr C θ B Γ H s θ1 B1 Γ1 H1 s') (rx : Rep C θ1 Γ1 vx x) (ry : Rep C θ1 Γ1 vy y) (hq : Post C θ B Γ H s s' d Q) : rBop o vx vy H1 Q := by
  unfold bop at h
  split at h
  · cases rx; cases ry; cases h; exact .inl ⟨_, _, rfl, rfl, hq _ _ _ _ _ g (.int _)⟩
  · split at h
    · rename_i hz
      cases rx with | str x hx => cases ry with | str y hy =>
      cases h
      refine .inr (.inl ⟨_, _, rfl, rfl, by rw [str_length hx, str_length hy, ← SZ_eq]; exact hz, hq _ _ _ _ _ g (.str _ ?_)⟩)
      show (x.cps ++ y.cps).toList = _
      simp [hx, hy]
    · cases h
  · split at h
    · cases h; exact absurd rfl (hd _)
    · cases h
  · cases rx; cases ry; cases h; exact ⟨_, _, rfl, rfl, hq _ _ _ _ _ g (.int _)⟩
  · split at h
    · rename_i hz
      cases rx; cases ry; cases h; exact ⟨_, _, rfl, rfl, hz, hq _ _ _ _ _ g (.int _)⟩
    · cases h
  · split at h
    · rename_i hz
      cases rx; cases ry; cases h; exact ⟨_, _, rfl, rfl, hz, hq _ _ _ _ _ g (.int _)⟩
    · cases h
  · split at h
    · rename_i hz
      cases rx; cases ry; cases h; exact ⟨_, _, rfl, rfl, hz, hq _ _ _ _ _ g (.int _)⟩
    · cases h
  · cases h
theorem bop_okF {o : Bop} {x y : D} {ds : List D} {vx vy : V} {θ1 : List Addr} {B1 Γ1 H1 : Hp} (h : bop o x y = some (.lst ds)) (g : Gr C θ B Γ H s θ1 B1 Γ1 H1 s') (rx : Rep C θ1 Γ1 vx x) (ry : Rep C θ1 Γ1 vy y) (hq : PostF C θ B Γ H s s' ds Q) : rBop o vx vy H1 Q := by
  unfold bop at h
  split at h <;> first | (cases h; done) | (split at h <;> first | (cases h; done) | skip)
  rename_i hz
  cases rx with | lst hx rx => cases ry with | lst hy ry =>
  cases h
  refine .inr (.inr ⟨_, _, _, _, rfl, rfl, g.wd.gh _ _ hx, g.wd.gh _ _ hy, by rw [rx.length, ry.length, ← SZ_eq]; exact hz, fun p hp => postF_new g hq hp (rx.append ry)⟩)
theorem ok_bin {o : Bop} {a b : E} (ha : OkE C P a) (hb : OkE C P b) : OkE C P (.bin o a b) := by
  intro ρ σ θ B Γ H s d s' Q W R he hq
  obtain ⟨x, s1, e1, he⟩ := bnd_inv he
  obtain ⟨y, s2, e2, he⟩ := bnd_inv he
  obtain ⟨e3, rfl⟩ := pair_inv (d := d) he
  refine tOp_ok ha hb W R e1 e2 fun vx vy θ' B' Γ' H' g rx ry => ?_
  by_cases hd : ∃ ds, d = .lst ds
  · obtain ⟨ds, rfl⟩ := hd
    exact bop_okF e3 g rx ry hq.f
  · exact bop_ok e3 (fun ds z => hd ⟨ds, z⟩) g rx ry hq
theorem okF_bin {o : Bop} {a b : E} (ha : OkE C P a) (hb : OkE C P b) : OkF C P (.bin o a b) := by
  intro _ ρ σ θ B Γ H s d s' Q W R he hq
  obtain ⟨x, s1, e1, he⟩ := bnd_inv he
  obtain ⟨y, s2, e2, he⟩ := bnd_inv he
  obtain ⟨e3, rfl⟩ := pair_inv (d := .non) he
  exact tOp_ok ha hb W R e1 e2 fun vx vy θ' B' Γ' H' g rx ry => bop_okF e3 g rx ry hq
theorem deq_ok {x y : D} {k : Bool} {vx vy : V} {θ1 : List Addr} {Γ1 : Hp} (h : deq x y = some k) (rx : Rep C θ1 Γ1 vx x) (ry : Rep C θ1 Γ1 vy y) : scal vx vy = true ∧ decide (vx = vy) = k := by
  unfold deq at h
  split at h
  case h_11 => cases h
  all_goals (cases rx; cases ry; cases h; refine ⟨rfl, ?_⟩)
  all_goals first
    | (simp; done)
    | skip
  rename_i x hx y hy
  by_cases e : x = y
  · subst e; simp [← hx, ← hy]
  · have e2 : ¬ (V.str x = V.str y) := fun z => e (by injection z)
    rw [decide_eq_false e2]
    symm
    apply decide_eq_false
    intro z
    apply e
    rw [str_eq hx, str_eq hy, z]
theorem inV_strs {x : Str} {lx : List Nat} (hx : x.cps.toList = lx) {θ1 : List Addr} {Γ1 : Hp} : ∀ {vs : List V} {ds : List D} {ls : List (List Nat)}, Reps C θ1 Γ1 vs ds → strs? ds = some ls → vs.all flatV = true ∧ inV (.str x) vs = decide (lx ∈ ls)
  | _, _, _, .nil, h => by cases h; exact ⟨rfl, rfl⟩
  | _, _, _, .cons h0 r, h => by
    cases h0 <;> simp only [strs?] at h <;> first | (cases h; done) | skip
    rename_i y l hy
    obtain ⟨ls', e, rfl⟩ := map_inv h
    obtain ⟨h1, h2⟩ := inV_strs hx r e
    refine ⟨by simp [flatV, h1], ?_⟩
    show (eqV (.str y) (.str x) || inV (.str x) _) = _
    rw [h2]
    have e1 : eqV (.str y) (.str x) = decide (lx = l) := by
      show (y == x) = _
      by_cases e : lx = l
      · have : y = x := by rw [str_eq hx, str_eq hy, e]
        simp [e, this]
      · have : ¬ y = x := fun z => e (by rw [← hx, ← hy, z])
        simp [e, this]
    rw [e1, Bool.eq_iff_iff]
    simp
theorem inV_ints {x : Int} {θ1 : List Addr} {Γ1 : Hp} : ∀ {vs : List V} {ds : List D} {ls : List Int}, Reps C θ1 Γ1 vs ds → ints? ds = some ls → vs.all flatV = true ∧ inV (.int x) vs = decide (x ∈ ls)
  | _, _, _, .nil, h => by cases h; exact ⟨rfl, rfl⟩
  | _, _, _, .cons h0 r, h => by
    cases h0 <;> simp only [ints?] at h <;> first | (cases h; done) | skip
    rename_i y
    obtain ⟨ls', e, rfl⟩ := map_inv h
    obtain ⟨h1, h2⟩ := inV_ints (x := x) r e
    refine ⟨by simp [flatV, h1], ?_⟩
    show (eqV (.int y) (.int x) || inV (.int x) _) = _
    rw [h2, Bool.eq_iff_iff]
    show (y == x || decide (x ∈ ls')) = true ↔ decide (x ∈ y :: ls') = true
    by_cases e : x = y
    · subst e; simp
    · have : ¬ y = x := fun z => e z.symm
      simp [e, this]
theorem din_ok {x y : D} {k : Bool} {vx vy : V} {θ1 : List Addr} {Γ1 H1 : Hp} (h : din x y = some k) (e : Same Γ1 H1) (rx : Rep C θ1 Γ1 vx x) (ry : Rep C θ1 Γ1 vy y) :
    (∃ (c : Nat) (z : Str), vx = .str ⟨#[c]⟩ ∧ vy = .str z ∧ decide (c ∈ z.cps.toList) = k) ∨ (∃ p xs, vy = .ref p ∧ (SqL C.K H1 p xs ∨ SqT C.K H1 p xs) ∧ flatV vx = true ∧ xs.all flatV = true ∧ inV vx xs = k) := by
  unfold din at h
  split at h
  · cases rx with | str x hx => cases ry with | str z hz =>
    cases h
    refine .inl ⟨_, z, by rw [str_eq hx]; rfl, rfl, by rw [hz]⟩
  · cases rx with | str x hx => cases ry with | tup hs r =>
    obtain ⟨ls, e1, rfl⟩ := map_inv h
    obtain ⟨h1, h2⟩ := inV_strs hx r e1
    exact .inr ⟨_, _, rfl, .inr (Same.seqT e hs), rfl, h1, h2⟩
  · cases rx with | str x hx => cases ry with | lst hs r =>
    obtain ⟨ls, e1, rfl⟩ := map_inv h
    obtain ⟨h1, h2⟩ := inV_strs hx r e1
    exact .inr ⟨_, _, rfl, .inl (sqL_of (e _ _ hs)), rfl, h1, h2⟩
  · cases rx with | int x0 => cases ry with | tup hs r =>
    obtain ⟨ls, e1, rfl⟩ := map_inv h
    obtain ⟨h1, h2⟩ := inV_ints r e1
    exact .inr ⟨_, _, rfl, .inr (Same.seqT e hs), rfl, h1, h2⟩
  · cases rx with | int x0 => cases ry with | lst hs r =>
    obtain ⟨ls, e1, rfl⟩ := map_inv h
    obtain ⟨h1, h2⟩ := inV_ints r e1
    exact .inr ⟨_, _, rfl, .inl (sqL_of (e _ _ hs)), rfl, h1, h2⟩
  · cases h
theorem cop_ok {o : Cop} {x y : D} {k : Bool} {vx vy : V} {θ1 : List Addr} {B1 Γ1 H1 : Hp} {Q : VK} (h : cop o x y = some k) (e : Same Γ1 H1) (rx : Rep C θ1 Γ1 vx x) (ry : Rep C θ1 Γ1 vy y) (hq : Q (.bl k) H1) : rCop C.K o vx vy H1 Q := by
  unfold cop at h
  split at h
  · obtain ⟨h1, h2⟩ := deq_ok h rx ry
    exact ⟨h1, by rw [h2]; exact hq⟩
  · obtain ⟨k', h0, rfl⟩ := map_inv h
    obtain ⟨h1, h2⟩ := deq_ok h0 rx ry
    exact ⟨h1, by rw [h2]; exact hq⟩
  · cases rx; cases ry; cases h; exact ⟨_, _, rfl, rfl, hq⟩
  · cases rx; cases ry; cases h; exact ⟨_, _, rfl, rfl, hq⟩
  · cases rx; cases ry; cases h; exact ⟨_, _, rfl, rfl, hq⟩
  · cases rx; cases ry; cases h; exact ⟨_, _, rfl, rfl, hq⟩
  · rcases din_ok h e rx ry with ⟨c, z, h1, h2, h3⟩ | ⟨p, xs, h1, h2, h3, h4, h5⟩
    · exact .inl ⟨c, z, h1, h2, by rw [h3]; exact hq⟩
    · exact .inr ⟨p, xs, h1, h2, h3, h4, by rw [if_neg Bool.false_ne_true, h5]; exact hq⟩
  · obtain ⟨k', h0, rfl⟩ := map_inv h
    rcases din_ok h0 e rx ry with ⟨c, z, h1, h2, h3⟩ | ⟨p, xs, h1, h2, h3, h4, h5⟩
    · exact .inl ⟨c, z, h1, h2, by rw [h3]; exact hq⟩
    · exact .inr ⟨p, xs, h1, h2, h3, h4, by rw [if_pos rfl, h5]; exact hq⟩
  · cases rx; cases ry; cases h; exact ⟨rfl, hq⟩
  · cases ry; cases h; refine ⟨rfl, ?_⟩
    have : decide (vx = V.non) = false := by cases rx <;> simp_all
    rw [this]; exact hq
  · cases rx; cases ry; cases h; exact ⟨rfl, hq⟩
  · cases ry; cases h; refine ⟨rfl, ?_⟩
    have : decide (vx = V.non) = false := by cases rx <;> simp_all
    rw [this]; exact hq
  · cases h
theorem ok_cmp {o : Cop} {a b : E} (ha : OkE C P a) (hb : OkE C P b) : OkE C P (.cmp o a b) := by
  intro ρ σ θ B Γ H s d s' Q W R he hq
  obtain ⟨x, s1, e1, he⟩ := bnd_inv he
  obtain ⟨y, s2, e2, he⟩ := bnd_inv he
  obtain ⟨k, e3, q⟩ := map_inv he
  cases q
  exact tOp_ok ha hb W R e1 e2 fun vx vy θ' B' Γ' H' g rx ry => cop_ok (B1 := B') e3 g.wd.gh rx ry (hq _ _ _ _ _ g (.bl _))
theorem okT_cmp {o : Cop} {a b : E} (ha : OkE C P a) (hb : OkE C P b) : OkT C P (.cmp o a b) := by
  intro ρ σ θ B Γ H s d s' b Q W R he ht hq
  obtain ⟨x, s1, e1, he⟩ := bnd_inv he
  obtain ⟨y, s2, e2, he⟩ := bnd_inv he
  obtain ⟨k, e3, q⟩ := map_inv he
  cases q
  have : k = b := by simpa [tru] using ht
  subst this
  exact tOp_ok (Q := fun x H' => ∃ k, x = .bl k ∧ Q k H') ha hb W R e1 e2 fun vx vy θ' B' Γ' H' g rx ry => cop_ok (B1 := B') e3 g.wd.gh rx ry ⟨k, rfl, hq _ _ _ _ g⟩
end
end DL
set_option Elab.async false
set_option linter.all false
set_option maxRecDepth 100000
set_option maxHeartbeats 1000000
/-! .. names, constants, and, or, not, displays, items, slices, built-in functions, methods of texts, tables, cells, calls. -/
namespace DL
open PySem L2
theorem at_eq {α : Type} (xs : List α) (i : Int) : at? xs i = atI xs i := by
  unfold at? atI ixN
  split
  · split <;> rfl
  · split <;> rfl
theorem six_eq (n d : Nat) (o : Option Int) : six n d o = HT.sIx n d o := by cases o <;> rfl
theorem cut_eqV (xs : List V) (lo hi : Option Int) : cut xs lo hi = cutV xs lo hi := by
  unfold cut cutV
  rw [six_eq, six_eq]
theorem cut_eqS (z : Str) (lo hi : Option Int) : (cutS z lo hi).cps.toList = cut z.cps.toList lo hi := by
  unfold cut cutS
  rw [six_eq, six_eq]
  have e : z.length = z.cps.toList.length := by simp [Str.length]
  rw [e]
/-! ### join, split, find, digits -/
theorem joinStr (sep : Str) {ls : List Nat} (hs : sep.cps.toList = ls) : ∀ {xs : List Str} {l : List (List Nat)}, xs.map (fun x => x.cps.toList) = l → (Str.join sep xs).cps.toList = joinL ls l
  | [], _, h => by subst h; rfl
  | [x], _, h => by subst h; rfl
  | x :: y :: r, _, h => by
    subst h
    have ih := joinStr sep hs (xs := y :: r) rfl
    show (x ++ sep ++ Str.join sep (y :: r)).cps.toList = x.cps.toList ++ ls ++ joinL ls _
    rw [← hs, ← hs] at *
    show ((x.cps ++ sep.cps) ++ (Str.join sep (y :: r)).cps).toList = _
    rw [Array.toList_append, Array.toList_append, ih]
    rfl
theorem join_eq {sep : Str} {ls : List Nat} (hs : sep.cps.toList = ls) {xs : List Str} {l : List (List Nat)} (h : xs.map (fun x => x.cps.toList) = l) : (Txt.join sep xs).cps.toList = joinL ls l := by
  show (PySem.Builtin.Str.glued sep xs).cps.toList = _
  rw [PySem.StrLaws.glued_eq_join]
  exact joinStr sep hs h
theorem splitL_free {c : Nat} : ∀ {p : List Nat}, c ∉ p → splitL c p = [p]
  | [], _ => rfl
  | x :: r, h => by
    have h1 : ¬ x = c := fun z => h (by simp [z])
    have h2 : c ∉ r := fun z => h (by simp [z])
    simp only [splitL, if_neg h1, splitL_free h2]
theorem splitL_cons {c : Nat} : ∀ {p rest : List Nat}, c ∉ p → splitL c (p ++ c :: rest) = p :: splitL c rest
  | [], rest, _ => by simp [splitL]
  | x :: r, rest, h => by
    have h1 : ¬ x = c := fun z => h (by simp [z])
    have h2 : c ∉ r := fun z => h (by simp [z])
    rw [List.cons_append]
    simp only [splitL, if_neg h1, splitL_cons h2]
theorem split_join {c : Nat} : ∀ {ps : List (List Nat)}, ps ≠ [] → (∀ p ∈ ps, c ∉ p) → splitL c (joinL [c] ps) = ps
  | [], h, _ => absurd rfl h
  | [p], _, h => splitL_free (h p (by simp))
  | p :: q :: r, _, h => by
    show splitL c (p ++ [c] ++ joinL [c] (q :: r)) = _
    rw [List.append_assoc, List.singleton_append, splitL_cons (h p (by simp)), split_join (by simp) fun x hx => h x (by simp at hx ⊢; right; exact hx)]
theorem split_ne (x y : Str) : Txt.split x y ≠ [] := by
  unfold Txt.split
  split
  · simp
  · split
    · simp
    · rw [PySem.StrLaws.partsBetween_eq]
      obtain ⟨p, r, e⟩ := PySem.StrLaws.partsFrom_ne x y.length 0 (PySem.Builtin.Str.occurrences x y 0 x.length (x.length + 1))
      rw [e]; simp
theorem split_eq (x : Str) (c : Nat) : (Txt.split x ⟨#[c]⟩).map (fun z => z.cps.toList) = splitL c x.cps.toList := by
  have h1 := PySem.StrLaws.join_split x ⟨#[c]⟩
  have h2 := PySem.StrLaws.split_free x c
  have h3 := split_ne x ⟨#[c]⟩
  generalize Txt.split x ⟨#[c]⟩ = ps at h1 h2 h3
  have e : x.cps.toList = joinL [c] (ps.map fun z => z.cps.toList) := by
    rw [← h1]
    exact joinStr ⟨#[c]⟩ (ls := [c]) rfl rfl
  rw [e, split_join (by simpa using h3)]
  intro p hp
  obtain ⟨q, hq, rfl⟩ := List.mem_map.mp hp
  exact h2 q hq
theorem findL_spec {c : Nat} : ∀ (l : List Nat) (n : Nat), (findL c l n = -1 ∧ c ∉ l) ∨ ∃ k, findL c l n = ((n + k : Nat) : Int) ∧ l[k]? = some c ∧ ∀ v, v < k → l[v]? ≠ some c
  | [], n => .inl ⟨rfl, by simp⟩
  | x :: r, n => by
    by_cases e : x = c
    · subst e
      exact .inr ⟨0, by simp [findL], by simp, fun v h => by omega⟩
    · rcases findL_spec (c := c) r (n + 1) with ⟨h1, h2⟩ | ⟨k, h1, h2, h3⟩
      · exact .inl ⟨by simp [findL, e, h1], by simp [h2]; exact fun z => e z.symm⟩
      · refine .inr ⟨k + 1, by simp [findL, e, h1]; omega, by simpa using h2, fun v hv => ?_⟩
        cases v with
        | zero => simp [e]
        | succ v => simpa using h3 v (by omega)
theorem find_eq (x : Str) (c : Nat) (i : Int) (h0 : 0 ≤ i) (h1 : i ≤ x.cps.toList.length) : Txt.find3 x ⟨#[c]⟩ i = findL c (x.cps.toList.drop i.toNat) i.toNat := by
  have hx : x.length = x.cps.toList.length := by simp [Str.length]
  have hf : PySem.fromIndex x.length i = i.toNat := by
    unfold PySem.fromIndex
    rw [if_neg (by omega)]
    congr 1
    omega
  have sp := PySem.StrLaws.find3_spec x c i
  rw [hf] at sp
  have gd : ∀ v, v < x.length → (x.cps.getD v 0 = c ↔ x.cps.toList[v]? = some c) := fun v hv => ⟨PySem.StrLaws.getElem?_of_getD hv, PySem.StrLaws.getD_of_getElem?⟩
  rcases sp with ⟨e1, n1⟩ | ⟨k, e1, l1, l2, l3, n1⟩
  · rcases findL_spec (c := c) (x.cps.toList.drop i.toNat) i.toNat with ⟨h3, h4⟩ | ⟨m, h3, h4, h5⟩
    · rw [e1, h3]
    · exfalso
      rw [List.getElem?_drop] at h4
      have hlt : i.toNat + m < x.length := by rw [hx]; exact (List.getElem?_eq_some_iff.mp h4).1
      exact n1 _ (by omega) hlt ((gd _ hlt).mpr h4)
  · rcases findL_spec (c := c) (x.cps.toList.drop i.toNat) i.toNat with ⟨h3, h4⟩ | ⟨m, h3, h4, h5⟩
    · exfalso
      apply h4
      have e2 := (gd k l2).mp l3
      have : (x.cps.toList.drop i.toNat)[k - i.toNat]? = some c := by
        rw [List.getElem?_drop, show i.toNat + (k - i.toNat) = k by omega]; exact e2
      exact List.mem_of_getElem? this
    · rw [e1, h3]
      rw [List.getElem?_drop] at h4
      have hlt : i.toNat + m < x.length := by rw [hx]; exact (List.getElem?_eq_some_iff.mp h4).1
      have e3 := (gd _ hlt).mpr h4
      have a1 : ¬ i.toNat + m < k := fun z => n1 _ (by omega) z e3
      have a2 : ¬ k < i.toNat + m := fun z => by
        have := h5 (k - i.toNat) (by omega)
        rw [List.getElem?_drop, show i.toNat + (k - i.toNat) = k by omega] at this
        exact this ((gd k l2).mp l3)
      congr 1
      omega
theorem strs_map {C : Cn} {θ : List Addr} {Γ : Hp} : ∀ {vs : List V} {ds : List D} {ls : List (List Nat)}, Reps C θ Γ vs ds → strs? ds = some ls → ∃ ys : List Str, vs = ys.map V.str ∧ ys.map (fun x => x.cps.toList) = ls
  | _, _, _, .nil, h => by cases h; exact ⟨[], rfl, rfl⟩
  | _, _, _, .cons h0 r, h => by
    cases h0 <;> simp only [strs?] at h <;> first | (cases h; done) | skip
    rename_i y l hy
    obtain ⟨ls', e, rfl⟩ := map_inv h
    obtain ⟨ys, rfl, h2⟩ := strs_map r e
    exact ⟨y :: ys, rfl, by simp [hy, h2]⟩
theorem ints_map {C : Cn} {θ : List Addr} {Γ : Hp} : ∀ {vs : List V} {ds : List D} {ls : List Int}, Reps C θ Γ vs ds → ints? ds = some ls → vs = ls.map V.int
  | _, _, _, .nil, h => by cases h; rfl
  | _, _, _, .cons h0 r, h => by
    cases h0 <;> simp only [ints?] at h <;> first | (cases h; done) | skip
    obtain ⟨ls', e, rfl⟩ := map_inv h
    rw [ints_map r e]; rfl
theorem dall_map {C : Cn} {θ : List Addr} {Γ : Hp} : ∀ {vs : List V} {ds : List D} {k : Bool}, Reps C θ Γ vs ds → dall ds = some k → ∃ bs : List Bool, vs = bs.map V.bl ∧ bs.all id = k
  | _, _, _, .nil, h => by cases h; exact ⟨[], rfl, rfl⟩
  | _, _, _, .cons h0 r, h => by
    cases h0 <;> simp only [dall] at h <;> first | (cases h; done) | skip
    rename_i b
    obtain ⟨k', e, rfl⟩ := map_inv h
    obtain ⟨bs, rfl, h2⟩ := dall_map r e
    exact ⟨b :: bs, rfl, by simp [h2]⟩
theorem reps_strs {C : Cn} {θ : List Addr} {Γ : Hp} : ∀ (ys : List Str), Reps C θ Γ (ys.map V.str) ((ys.map fun z => z.cps.toList).map D.str)
  | [] => .nil
  | y :: r => .cons (.str y rfl) (reps_strs r)
theorem sum_len : ∀ (ys : List Str), ((ys.map fun z => z.cps.toList).map (·.length)).sum = (ys.map (·.length)).sum
  | [] => rfl
  | y :: r => by
    have := sum_len r
    simp only [List.map_cons, List.sum_cons] at this ⊢
    rw [this]
    simp [Str.length]
section
variable {C : Cn} {P : Par}
theorem ok_nop : OkE C P .nop := fun ρ σ θ B Γ H s d s' Q W R he hq => by
  cases he; exact hq _ _ _ _ _ (Gr.refl W) .non
theorem ok_non : OkE C P .non := fun ρ σ θ B Γ H s d s' Q W R he hq => by
  cases he; exact hq _ _ _ _ _ (Gr.refl W) .non
theorem ok_int {i : Int} : OkE C P (.int i) := fun ρ σ θ B Γ H s d s' Q W R he hq => by
  cases he; exact hq _ _ _ _ _ (Gr.refl W) (.int i)
theorem ok_bl {i : Bool} : OkE C P (.bl i) := fun ρ σ θ B Γ H s d s' Q W R he hq => by
  cases he; exact hq _ _ _ _ _ (Gr.refl W) (.bl i)
theorem ok_str {l : List Nat} : OkE C P (.str l) := fun ρ σ θ B Γ H s d s' Q W R he hq => by
  cases he; exact hq _ _ _ _ _ (Gr.refl W) (.str _ (cps_toList l))
theorem ok_var {i : Nat} : OkE C P (.var i) := fun ρ σ θ B Γ H s d s' Q W R he hq => by
  simp only [ev] at he
  split at he
  · rename_i d0 e
    cases he
    obtain ⟨v, e1, r⟩ := R.at_ i d e
    exact ⟨v, e1, hq _ _ _ _ _ (Gr.refl W) r⟩
  · cases he
theorem ok_nil : OkE C P .nil := fun ρ σ θ B Γ H s d s' Q W R he hq => by
  cases he; exact fun p hp => post_tup (Gr.refl W) hq hp .nil
theorem okA_nil : OkA C P .nil := fun ρ σ θ B Γ H s ds s' Q W R he hq => by
  cases he; exact hq _ _ _ _ _ (Gr.refl W) .nil
theorem cons_inv {a r : E} {ρ : Vw} {s s' : Ss} {d : D} (he : ev P (.cons a r) ρ s = some (d, s')) : ∃ x s1 ys, ev P a ρ s = some (x, s1) ∧ ev P r ρ s1 = some (.tup ys, s') ∧ d = .tup (x :: ys) := by
  obtain ⟨x, s1, e1, he⟩ := bnd_inv he
  obtain ⟨y, s2, e2, he⟩ := bnd_inv he
  split at he
  · rename_i ys
    cases he
    exact ⟨x, s1, ys, e1, e2, rfl⟩
  · cases he
theorem okA_cons {a r : E} (ha : OkE C P a) (hr : OkA C P r) : OkA C P (.cons a r) := fun ρ σ θ B Γ H s ds s' Q W R he hq => by
  obtain ⟨x, s1, ys, e1, e2, e3⟩ := cons_inv he
  cases e3
  exact ha _ _ _ _ _ _ _ _ _ _ W R e1 fun v1 θ1 B1 Γ1 H1 g1 r1 => hr _ _ _ _ _ _ _ _ _ _ g1.wd (g1.env R) e2 fun vs θ2 B2 Γ2 H2 g2 r2 => hq _ _ _ _ _ (g1.trans g2) (.cons (g2.rep r1) r2)
theorem ok_cons {a r : E} (ha : OkE C P a) (hr : OkA C P r) : OkE C P (.cons a r) := fun ρ σ θ B Γ H s d s' Q W R he hq => by
  obtain ⟨x, s1, ys, e1, e2, e3⟩ := cons_inv he
  subst e3
  exact okA_cons ha hr _ _ _ _ _ _ _ _ _ (fun vs H1 => ∀ p, H1 p = none → Q (.ref p) (upd H1 p (.tup vs))) W R he fun vs θ2 B2 Γ2 H2 g2 r2 p hp => post_tup g2 hq hp r2
theorem ok_and {a b : E} (ha : OkE C P a) (hb : OkE C P b) : OkE C P (.and_ a b) := fun ρ σ θ B Γ H s d s' Q W R he hq => by
  obtain ⟨x, s1, e1, he⟩ := bnd_inv he
  refine ha _ _ _ _ _ _ _ _ _ _ W R e1 fun v1 θ1 B1 Γ1 H1 g1 r1 => ?_
  split at he
  · rename_i ht
    refine ⟨true, tru_of r1 g1.wd.gh ht, ?_⟩
    rw [if_pos rfl]
    exact hb _ _ _ _ _ _ _ _ _ _ g1.wd (g1.env R) he fun v2 θ2 B2 Γ2 H2 g2 r2 => hq _ _ _ _ _ (g1.trans g2) r2
  · rename_i ht
    cases he
    refine ⟨false, tru_of r1 g1.wd.gh ht, ?_⟩
    rw [if_neg Bool.false_ne_true]
    exact hq _ _ _ _ _ g1 r1
  · cases he
theorem ok_or {a b : E} (ha : OkE C P a) (hb : OkE C P b) : OkE C P (.or_ a b) := fun ρ σ θ B Γ H s d s' Q W R he hq => by
  obtain ⟨x, s1, e1, he⟩ := bnd_inv he
  refine ha _ _ _ _ _ _ _ _ _ _ W R e1 fun v1 θ1 B1 Γ1 H1 g1 r1 => ?_
  split at he
  · rename_i ht
    cases he
    refine ⟨true, tru_of r1 g1.wd.gh ht, ?_⟩
    rw [if_pos rfl]
    exact hq _ _ _ _ _ g1 r1
  · rename_i ht
    refine ⟨false, tru_of r1 g1.wd.gh ht, ?_⟩
    rw [if_neg Bool.false_ne_true]
    exact hb _ _ _ _ _ _ _ _ _ _ g1.wd (g1.env R) he fun v2 θ2 B2 Γ2 H2 g2 r2 => hq _ _ _ _ _ (g1.trans g2) r2
  · cases he
theorem ok_not {a : E} (ha : OkE C P a) : OkE C P (.not_ a) := fun ρ σ θ B Γ H s d s' Q W R he hq => by
  obtain ⟨x, s1, e1, he⟩ := bnd_inv he
  obtain ⟨k, ht, e⟩ := map_inv he
  cases e
  exact ha _ _ _ _ _ _ _ _ _ _ W R e1 fun v1 θ1 B1 Γ1 H1 g1 r1 => ⟨k, tru_of r1 g1.wd.gh ht, hq _ _ _ _ _ g1 (.bl _)⟩
theorem okT_and {a b : E} (ha : OkT C P a) (hb : OkT C P b) : OkT C P (.and_ a b) := fun ρ σ θ B Γ H s d s' k Q W R he hk hq => by
  obtain ⟨x, s1, e1, he⟩ := bnd_inv he
  split at he
  · rename_i ht
    refine ha _ _ _ _ _ _ _ _ _ _ _ W R e1 ht fun θ1 B1 Γ1 H1 g1 => ?_
    show (if true = true then _ else _)
    rw [if_pos rfl]
    exact hb _ _ _ _ _ _ _ _ _ _ _ g1.wd (g1.env R) he hk fun θ2 B2 Γ2 H2 g2 => hq _ _ _ _ (g1.trans g2)
  · rename_i ht
    cases he
    rw [ht] at hk
    cases hk
    refine ha _ _ _ _ _ _ _ _ _ _ _ W R e1 ht fun θ1 B1 Γ1 H1 g1 => ?_
    show (if false = true then _ else _)
    rw [if_neg Bool.false_ne_true]
    exact hq _ _ _ _ g1
  · cases he
theorem okT_or {a b : E} (ha : OkT C P a) (hb : OkT C P b) : OkT C P (.or_ a b) := fun ρ σ θ B Γ H s d s' k Q W R he hk hq => by
  obtain ⟨x, s1, e1, he⟩ := bnd_inv he
  split at he
  · rename_i ht
    cases he
    rw [ht] at hk
    cases hk
    refine ha _ _ _ _ _ _ _ _ _ _ _ W R e1 ht fun θ1 B1 Γ1 H1 g1 => ?_
    show (if true = true then _ else _)
    rw [if_pos rfl]
    exact hq _ _ _ _ g1
  · rename_i ht
    refine ha _ _ _ _ _ _ _ _ _ _ _ W R e1 ht fun θ1 B1 Γ1 H1 g1 => ?_
    show (if false = true then _ else _)
    rw [if_neg Bool.false_ne_true]
    exact hb _ _ _ _ _ _ _ _ _ _ _ g1.wd (g1.env R) he hk fun θ2 B2 Γ2 H2 g2 => hq _ _ _ _ (g1.trans g2)
  · cases he
theorem okT_not {a : E} (ha : OkT C P a) : OkT C P (.not_ a) := fun ρ σ θ B Γ H s d s' k Q W R he hk hq => by
  obtain ⟨x, s1, e1, he⟩ := bnd_inv he
  obtain ⟨k', ht, e⟩ := map_inv he
  cases e
  cases hk
  exact ha _ _ _ _ _ _ _ _ _ _ _ W R e1 ht fun θ1 B1 Γ1 H1 g1 => hq _ _ _ _ g1
theorem ok_ite {c a b : E} (hc : OkT C P c) (ha : OkE C P a) (hb : OkE C P b) : OkE C P (.ite c a b) := fun ρ σ θ B Γ H s d s' Q W R he hq => by
  obtain ⟨x, s1, e1, he⟩ := bnd_inv he
  split at he
  · rename_i ht
    refine hc _ _ _ _ _ _ _ _ _ _ _ W R e1 ht fun θ1 B1 Γ1 H1 g1 => ?_
    show (if true = true then _ else _)
    rw [if_pos rfl]
    exact ha _ _ _ _ _ _ _ _ _ _ g1.wd (g1.env R) he fun v2 θ2 B2 Γ2 H2 g2 r2 => hq _ _ _ _ _ (g1.trans g2) r2
  · rename_i ht
    refine hc _ _ _ _ _ _ _ _ _ _ _ W R e1 ht fun θ1 B1 Γ1 H1 g1 => ?_
    show (if false = true then _ else _)
    rw [if_neg Bool.false_ne_true]
    exact hb _ _ _ _ _ _ _ _ _ _ g1.wd (g1.env R) he fun v2 θ2 B2 Γ2 H2 g2 r2 => hq _ _ _ _ _ (g1.trans g2) r2
  · cases he
theorem ok_tup {a : E} (ha : OkA C P a) : OkE C P (.tup a) := fun ρ σ θ B Γ H s d s' Q W R he hq => by
  obtain ⟨x, s1, e1, he⟩ := bnd_inv he
  split at he
  · split at he
    · rename_i hz
      cases he
      exact ha _ _ _ _ _ _ _ _ _ _ W R e1 fun vs θ1 B1 Γ1 H1 g1 r1 => ⟨by rw [r1.length, ← SZ_eq]; exact hz, fun p hp => post_tup g1 hq hp r1⟩
    · cases he
  · cases he
theorem lst_inv {a : E} {ρ : Vw} {s s' : Ss} {d : D} (he : ev P (.lst a) ρ s = some (d, s')) : ∃ xs, ev P a ρ s = some (.tup xs, s') ∧ xs.length ≤ SZ ∧ d = .lst xs := by
  obtain ⟨x, s1, e1, he⟩ := bnd_inv he
  split at he
  · split at he
    · rename_i hz
      cases he
      exact ⟨_, e1, hz, rfl⟩
    · cases he
  · cases he
theorem okF_lst {a : E} (ha : OkA C P a) : OkF C P (.lst a) := fun _ ρ σ θ B Γ H s ds s' Q W R he hq => by
  obtain ⟨xs, e1, hz, e⟩ := lst_inv he
  cases e
  exact ha _ _ _ _ _ _ _ _ _ _ W R e1 fun vs θ1 B1 Γ1 H1 g1 r1 => ⟨by rw [r1.length, ← SZ_eq]; exact hz, fun p hp => postF_new g1 hq hp r1⟩
theorem ok_lst {a : E} (ha : OkA C P a) : OkE C P (.lst a) := fun ρ σ θ B Γ H s d s' Q W R he hq => by
  obtain ⟨xs, e1, hz, rfl⟩ := lst_inv he
  exact okF_lst ha rfl _ _ _ _ _ _ _ _ _ _ W R he hq.f
theorem ok_idx {a b : E} (ha : OkE C P a) (hb : OkE C P b) : OkE C P (.idx a b) := fun ρ σ θ B Γ H s d s' Q W R he hq => by
  obtain ⟨x, s1, e1, he⟩ := bnd_inv he
  obtain ⟨y, s2, e2, he⟩ := bnd_inv he
  obtain ⟨e3, rfl⟩ := pair_inv (d := d) he
  refine tOp_ok ha hb W R e1 e2 fun vx vy θ' B' Γ' H' g rx ry => ?_
  have key : ∀ {vs : List V} {ds : List D} {i : Int}, Reps C θ' Γ' vs ds → at? ds i = some d → ∃ v, atI vs i = some v ∧ Rep C θ' Γ' v d := fun {vs ds i} r h => by
    rw [at_eq] at h
    unfold atI at h ⊢
    rw [r.length]
    obtain ⟨j, e, h⟩ := bind_inv h
    obtain ⟨v, e4, r4⟩ := r.get h
    exact ⟨v, by rw [e]; exact e4, r4⟩
  unfold dix at e3
  split at e3
  · cases rx with | tup hs r =>
    cases ry
    obtain ⟨v, e4, r4⟩ := key r e3
    exact .inr (.inl ⟨_, _, _, v, rfl, rfl, Same.seqT g.wd.gh hs, e4, hq _ _ _ _ _ g r4⟩)
  · cases rx with | lst hs r =>
    cases ry
    obtain ⟨v, e4, r4⟩ := key r e3
    exact .inl ⟨_, _, _, v, rfl, rfl, sqL_of (g.wd.gh _ _ hs), e4, hq _ _ _ _ _ g r4⟩
  · split at e3
    · rename_i hz
      cases rx with | str x hx =>
      cases ry
      obtain ⟨c, e4, rfl⟩ := map_inv e3
      refine .inr (.inr ⟨x, _, c, rfl, rfl, by rw [str_length hx, ← SZ_eq]; exact hz, ?_, hq _ _ _ _ _ g (.str _ rfl)⟩)
      rw [hx, ← at_eq]; exact e4
    · cases e3
  · cases e3
theorem okO {lo : E} (h : OkE C P lo) {ρ : Vw} {σ : St} {θ : List Addr} {B Γ H : Hp} {s s' : Ss} {d : D} {o : Option Int} {Q : Option Int → Hp → Prop} (W : Wd C θ B Γ H s) (R : EnvR C θ Γ σ ρ) (he : ev P lo ρ s = some (d, s')) (hp : partE lo d = some o)
    (hq : ∀ θ' B' Γ' H', Gr C θ B Γ H s θ' B' Γ' H' s' → Q o H') : rdO lo (rd C P lo).te σ H Q := by
  have key : (∃ i, d = .int i ∧ o = some i) → tPart (rd C P lo).te σ H Q := fun ⟨i, h1, h2⟩ => by
    subst h1; subst h2
    refine h _ _ _ _ _ _ _ _ _ _ W R he fun v θ1 B1 Γ1 H1 g r => ?_
    cases r
    exact ⟨i, rfl, hq _ _ _ _ g⟩
  by_cases hn : lo = .nop
  · subst hn
    cases he
    cases hp
    exact hq _ _ _ _ (Gr.refl W)
  · have e1 : rdO lo (rd C P lo).te = tPart (rd C P lo).te := by
      cases lo <;> first | rfl | exact absurd rfl hn
    have e2 : partE lo d = part? d := by
      cases lo <;> first | rfl | exact absurd rfl hn
    rw [e1]
    rw [e2] at hp
    apply key
    cases d <;> simp only [part?] at hp <;> first | (cases hp; done) | skip
    cases hp
    exact ⟨_, rfl, rfl⟩
theorem slc_inv {k : Itk} {a lo hi : E} {ρ : Vw} {s s' : Ss} {d : D} (he : ev P (.slc k a lo hi) ρ s = some (d, s')) :
    ∃ x s1 l s2 h o1 o2, ev P a ρ s = some (x, s1) ∧ ev P lo ρ s1 = some (l, s2) ∧ ev P hi ρ s2 = some (h, s') ∧ partE lo l = some o1 ∧ partE hi h = some o2 ∧ dsl k x o1 o2 = some d := by
  obtain ⟨x, s1, e1, he⟩ := bnd_inv he
  obtain ⟨l, s2, e2, he⟩ := bnd_inv he
  obtain ⟨h, s3, e3, he⟩ := bnd_inv he
  obtain ⟨o1, e4, he⟩ := bind_inv he
  obtain ⟨o2, e5, he⟩ := bind_inv he
  obtain ⟨e6, rfl⟩ := pair_inv (d := d) he
  exact ⟨x, s1, l, s2, h, o1, o2, e1, e2, e3, e4, e5, e6⟩
theorem tSl_ok {k : Itk} {a lo hi : E} (ha : OkE C P a) (hl : OkE C P lo) (hh : OkE C P hi) {ρ : Vw} {σ : St} {θ : List Addr} {B Γ H : Hp} {s s1 s2 s' : Ss} {x l h : D} {o1 o2 : Option Int} {Q : VK} (W : Wd C θ B Γ H s) (R : EnvR C θ Γ σ ρ)
    (e1 : ev P a ρ s = some (x, s1)) (e2 : ev P lo ρ s1 = some (l, s2)) (e3 : ev P hi ρ s2 = some (h, s')) (e4 : partE lo l = some o1) (e5 : partE hi h = some o2)
    (hr : ∀ vx θ' B' Γ' H', Gr C θ B Γ H s θ' B' Γ' H' s' → Rep C θ' Γ' vx x → rSl C.K k vx o1 o2 H' Q) : (rd C P (.slc k a lo hi)).te σ H Q :=
  ha _ _ _ _ _ _ _ _ _ _ W R e1 fun v1 θ1 B1 Γ1 H1 g1 r1 => okO hl g1.wd (g1.env R) e2 e4 fun θ2 B2 Γ2 H2 g2 => okO hh g2.wd ((g1.trans g2).env R) e5' e5 fun θ3 B3 Γ3 H3 g3 => hr v1 _ _ _ _ ((g1.trans g2).trans g3) (g3.rep (g2.rep r1))
where e5' := e3
theorem cut_reps {θ : List Addr} {Γ : Hp} {vs : List V} {ds : List D} (r : Reps C θ Γ vs ds) (lo hi : Option Int) : Reps C θ Γ (cutV vs lo hi) (cut ds lo hi) := by
  rw [← cut_eqV]
  unfold cut
  rw [r.length]
  exact (r.drop _).take _
theorem okF_slc {k : Itk} {a lo hi : E} (ha : OkE C P a) (hl : OkE C P lo) (hh : OkE C P hi) : OkF C P (.slc k a lo hi) := fun _ ρ σ θ B Γ H s ds s' Q W R he hq => by
  obtain ⟨x, s1, l, s2, h, o1, o2, e1, e2, e3, e4, e5, e6⟩ := slc_inv he
  refine tSl_ok ha hl hh W R e1 e2 e3 e4 e5 fun vx θ' B' Γ' H' g rx => ?_
  unfold dsl at e6
  split at e6 <;> first | (cases e6; done) | (split at e6 <;> first | (cases e6; done) | skip) | skip
  cases rx with | lst hs r =>
  cases e6
  exact ⟨_, _, rfl, sqL_of (g.wd.gh _ _ hs), fun p hp => postF_new g hq hp (cut_reps r _ _)⟩
theorem ok_slc {k : Itk} {a lo hi : E} (ha : OkE C P a) (hl : OkE C P lo) (hh : OkE C P hi) : OkE C P (.slc k a lo hi) := fun ρ σ θ B Γ H s d s' Q W R he hq => by
  obtain ⟨x, s1, l, s2, h, o1, o2, e1, e2, e3, e4, e5, e6⟩ := slc_inv he
  by_cases hd : ∃ ds, d = .lst ds
  · obtain ⟨ds, rfl⟩ := hd
    exact okF_slc ha hl hh rfl _ _ _ _ _ _ _ _ _ _ W R he hq.f
  · refine tSl_ok ha hl hh W R e1 e2 e3 e4 e5 fun vx θ' B' Γ' H' g rx => ?_
    unfold dsl at e6
    split at e6
    · split at e6
      · cases e6
      · rename_i hz
        cases rx with | tup hs r =>
        cases e6
        refine ⟨_, _, rfl, Same.seqT g.wd.gh hs, ?_, fun p hp => post_tup g hq hp (cut_reps r _ _)⟩
        rw [← six_eq, ← six_eq, r.length]; exact hz
    · cases e6; exact absurd ⟨_, rfl⟩ hd
    · split at e6
      · rename_i hz
        cases rx with | str x hx =>
        cases e6
        exact ⟨x, rfl, by rw [str_length hx, ← SZ_eq]; exact hz, hq _ _ _ _ _ g (.str _ (by rw [cut_eqS, hx]))⟩
      · cases e6
    · cases e6
end
end DL
set_option Elab.async false
set_option linter.all false
set_option maxRecDepth 100000
set_option maxHeartbeats 1000000
/-! .. built-in functions, methods of texts, tables, cells, calls. -/
namespace DL
open PySem L2
section
variable {C : Cn} {P : Par}
theorem kit6 : ∀ k : Fin 7, ∀ t : Fin 6, kitB (match k.val with | 0 => "int" | 1 => "bool" | 2 => "str" | 3 => "tuple" | 4 => "list" | 5 => "dict" | _ => "NoneType") (tyN t.val) = some (isiB k.val t.val) := by decide +kernel
theorem isi_ok {θ' : List Addr} {B' Γ' H' : Hp} {s' : Ss} {v : V} {d : D} {k t : Nat} (W : Wd C θ' B' Γ' H' s') (r : Rep C θ' Γ' v d) (hk : kindOf d = some k) (ht : t ≤ 5) : ∃ ty, TyX C.K H' v ty ∧ PySem.W.kitOne C.K ty (.type (tyN t)) = some (isiB k t) := by
  cases r with
  | non => cases hk; exact ⟨_, .base .non, kit_ty (kit6 6 ⟨t, by omega⟩)⟩
  | bl b => cases hk; exact ⟨_, .base (.bl b), kit_ty (kit6 1 ⟨t, by omega⟩)⟩
  | int b => cases hk; exact ⟨_, .base (.int b), kit_ty (kit6 0 ⟨t, by omega⟩)⟩
  | str b => cases hk; exact ⟨_, .base (.str b), kit_ty (kit6 2 ⟨t, by omega⟩)⟩
  | tup hs r =>
    cases hk
    have hs := Same.seqT W.gh hs
    rcases hs with (h | ⟨o, h⟩) | ⟨o, its, n, h, hc, _⟩
    · exact ⟨_, .base (.tup h), kit_ty (kit6 3 ⟨t, by omega⟩)⟩
    · exact ⟨_, .fTuple h, kit_ty (kit6 3 ⟨t, by omega⟩)⟩
    · exact ⟨_, .kTuple h hc, kit_ty (kit6 3 ⟨t, by omega⟩)⟩
  | lst hs r => cases hk; exact ⟨_, .base (.lst (W.gh _ _ hs)), kit_ty (kit6 4 ⟨t, by omega⟩)⟩
  | loc hs =>
    cases hk
    obtain ⟨kvs, e⟩ := W.at (List.mem_of_getElem? hs)
    exact ⟨_, .base (.dK e), kit_ty (kit6 5 ⟨t, by omega⟩)⟩
  | lsk hs r => cases hk
theorem log2_small {i : Int} (h0 : 0 ≤ i) (h1 : i < 10 ^ 10) : i.natAbs.log2 < 1920 := by
  have h : i.natAbs < 2 ^ 64 := by omega
  have := PySem.Flt.log2_lt_of (by decide : 0 < 64) h
  omega
theorem bi_ok {f : Bi} {x d : D} {v : V} {θ θ' : List Addr} {B Γ H B' Γ' H' : Hp} {s s' : Ss} {Q : VK} (h : dbi f x = some d) (g : Gr C θ B Γ H s θ' B' Γ' H' s') (r : Rep C θ' Γ' v x) (hq : Post C θ B Γ H s s' d Q) {σ : St} :
    (rdBa f) σ H' fun xs H2 => rBi C.K f (v :: xs) H2 Q := by
  unfold dbi at h
  split at h
  · split at h
    · rename_i hz
      cases r with | str x hx =>
      cases h
      exact ⟨_, _, rfl, ⟨by rw [str_length hx, ← SZ_eq]; exact hz, rfl⟩, hq _ _ _ _ _ g (by rw [str_length hx]; exact .int _)⟩
    · cases h
  · cases r with | tup hs r =>
    cases h
    exact ⟨_, _, rfl, .inr ⟨_, Same.seqT g.wd.gh hs, rfl⟩, hq _ _ _ _ _ g (by rw [r.length]; exact .int _)⟩
  · cases r with | lst hs r =>
    cases h
    exact ⟨_, _, rfl, .inl ⟨_, sqL_of (g.wd.gh _ _ hs), rfl⟩, hq _ _ _ _ _ g (by rw [r.length]; exact .int _)⟩
  · cases r; cases h; exact .inl (.inl ⟨_, rfl, hq _ _ _ _ _ g (.int _)⟩)
  · split at h
    · rename_i hz
      cases r with | str x hx =>
      cases h
      refine .inr ⟨x, _, rfl, intText_digits (fun c hc => ?_) (by rw [hx]; exact hz.1) (by rw [str_length hx]; omega), by rw [str_length hx]; exact hz.2.2, hq _ _ _ _ _ g (by rw [hx]; exact .int _)⟩
      rw [hx] at hc
      have := List.all_eq_true.mp hz.2.1 c hc
      simp only [isDig, Bool.and_eq_true, decide_eq_true_eq] at this
      exact this
    · cases h
  · split at h
    · rename_i i hz
      cases r
      cases h
      refine .inl ⟨_, rfl, log2_small hz.1 hz.2, hq _ _ _ _ _ g (.str _ ?_)⟩
      have e : i = ((i.toNat : Nat) : Int) := by omega
      have := TL.tl_num i.toNat
      rw [← e] at this
      exact this
    · cases h
  · cases r with | str x hx =>
    cases h
    exact .inr ⟨_, rfl, hq _ _ _ _ _ g (.str _ hx)⟩
  · cases r; cases h; exact ⟨_, rfl, hq _ _ _ _ _ g (.int _)⟩
  · cases r with | lst hs r =>
    cases h
    exact ⟨_, _, rfl, .inl ⟨sqL_of (g.wd.gh _ _ hs), fun p hp => post_tup g hq hp r⟩⟩
  · cases r with | tup hs r =>
    cases h
    exact ⟨_, _, rfl, .inr ⟨Same.seqT g.wd.gh hs, hq _ _ _ _ _ g (.tup hs r)⟩⟩
  · cases r with | lst hs r =>
    obtain ⟨k, e, rfl⟩ := map_inv h
    obtain ⟨bs, rfl, rfl⟩ := dall_map r e
    exact ⟨_, bs, rfl, sqL_of (g.wd.gh _ _ hs), hq _ _ _ _ _ g (.bl _)⟩
  · cases r with | lst hs r =>
    obtain ⟨k, e, rfl⟩ := map_inv h
    have := ints_map r e
    subst this
    exact ⟨_, k, rfl, sqL_of (g.wd.gh _ _ hs), hq _ _ _ _ _ g (.int _)⟩
  · split at h
    · rename_i ht
      obtain ⟨k, e, rfl⟩ := map_inv h
      obtain ⟨ty, h1, h2⟩ := isi_ok g.wd r e ht
      exact ⟨_, _, _, _, _, rfl, .ty _, h1, h2, hq _ _ _ _ _ g (.bl _)⟩
    · cases h
  · cases h
theorem ok_bi {f : Bi} {a : E} (ha : OkE C P a) : OkE C P (.bi f a) := fun ρ σ θ B Γ H s d s' Q W R he hq => by
  obtain ⟨x, s1, e1, he⟩ := bnd_inv he
  obtain ⟨e3, rfl⟩ := pair_inv (d := d) he
  exact ha _ _ _ _ _ _ _ _ _ _ W R e1 fun v1 θ1 B1 Γ1 H1 g1 r1 => bi_ok e3 g1 r1 hq
theorem me_ok {m : Me} {x d : D} {ys : List D} {v : V} {vs : List V} {θ θ' : List Addr} {B Γ H B' Γ' H' : Hp} {s s' : Ss} {Q : VK} (h : dme m x (.tup ys) = some d) (hd : ∀ ds, d ≠ .lst ds) (g : Gr C θ B Γ H s θ' B' Γ' H' s') (r : Rep C θ' Γ' v x) (ra : Reps C θ' Γ' vs ys) (hq : Post C θ B Γ H s s' d Q) :
    rMe C.K m v vs H' Q := by
  unfold dme at h
  split at h
  · cases r with | str x hx =>
    rename_i e
    cases e
    cases ra with | cons h0 r0 =>
    cases r0
    cases h0 with | lst hs r =>
    obtain ⟨l, e1, h⟩ := bind_inv h
    obtain ⟨zs, rfl, e2⟩ := strs_map r e1
    split at h
    · rename_i hz
      cases h
      refine ⟨x, _, zs, rfl, rfl, .inl (sqL_of (g.wd.gh _ _ hs)), ?_, hq _ _ _ _ _ g (.str _ (join_eq hx e2))⟩
      rw [← e2, sum_len] at hz
      rw [str_length hx]
      simpa using hz
    · cases h
  · cases r with | str x hx =>
    rename_i e
    cases e
    cases ra with | cons h0 r0 =>
    cases r0
    cases h0 with | tup hs r =>
    obtain ⟨l, e1, h⟩ := bind_inv h
    obtain ⟨zs, rfl, e2⟩ := strs_map r e1
    split at h
    · rename_i hz
      cases h
      refine ⟨x, _, zs, rfl, rfl, .inr (Same.seqT g.wd.gh hs), ?_, hq _ _ _ _ _ g (.str _ (join_eq hx e2))⟩
      rw [← e2, sum_len] at hz
      rw [str_length hx]
      simpa using hz
    · cases h
  · split at h
    · cases h; exact absurd rfl (hd _)
    · cases h
  · split at h
    · rename_i hz
      cases r with | str x hx =>
      rename_i e
      cases e
      cases ra with | cons h0 r0 =>
      cases r0 with | cons h1 r1 =>
      cases r1
      cases h0 with | str y hy =>
      cases h1
      cases h
      have ey := str_eq hy
      subst ey
      refine ⟨x, _, _, rfl, rfl, ?_⟩
      rename_i s0 c0 i0
      have := find_eq x c0 i0 hz.2.1 (by rw [hx]; exact hz.2.2)
      show Q (.int (Txt.find3 x ⟨#[c0]⟩ i0)) H'
      rw [this, hx]
      exact hq _ _ _ _ _ g (.int _)
    · cases h
  · cases h
theorem me_okF {m : Me} {x : D} {ds ys : List D} {v : V} {vs : List V} {θ θ' : List Addr} {B Γ H B' Γ' H' : Hp} {s s' : Ss} {Q : VK} (h : dme m x (.tup ys) = some (.lst ds)) (g : Gr C θ B Γ H s θ' B' Γ' H' s') (r : Rep C θ' Γ' v x) (ra : Reps C θ' Γ' vs ys) (hq : PostF C θ B Γ H s s' ds Q) :
    rMe C.K m v vs H' Q := by
  unfold dme at h
  split at h
  · obtain ⟨l, e1, h⟩ := bind_inv h
    split at h <;> cases h
  · obtain ⟨l, e1, h⟩ := bind_inv h
    split at h <;> cases h
  · split at h
    · rename_i hz
      cases r with | str x hx =>
      rename_i e
      cases e
      cases ra with | cons h0 r0 =>
      cases r0
      cases h0 with | str y hy =>
      cases h
      have ey := str_eq hy
      subst ey
      refine ⟨x, _, rfl, rfl, rfl, by rw [str_length hx, ← SZ_eq]; exact hz, fun p hp => postF_new g hq hp ?_⟩
      rw [← hx]
      have := split_eq x
      show Reps C θ' Γ' ((Txt.split x ⟨#[_]⟩).map V.str) _
      rw [← this]
      exact reps_strs _
    · cases h
  · split at h <;> cases h
  · cases h
theorem me_inv {m : Me} {o a : E} {ρ : Vw} {s s' : Ss} {d : D} (he : ev P (.me m o a) ρ s = some (d, s')) : ∃ x s1 ys, ev P o ρ s = some (x, s1) ∧ ev P a ρ s1 = some (.tup ys, s') ∧ dme m x (.tup ys) = some d := by
  obtain ⟨x, s1, e1, he⟩ := bnd_inv he
  obtain ⟨y, s2, e2, he⟩ := bnd_inv he
  obtain ⟨e3, rfl⟩ := pair_inv (d := d) he
  have : ∃ ys, y = .tup ys := by
    unfold dme at e3
    split at e3 <;> first | exact ⟨_, rfl⟩ | cases e3
  obtain ⟨ys, rfl⟩ := this
  exact ⟨x, s1, ys, e1, e2, e3⟩
theorem tBM_ok {m : Me} {o a : E} (ho : OkE C P o) (ha : OkA C P a) {ρ : Vw} {σ : St} {θ : List Addr} {B Γ H : Hp} {s s1 s' : Ss} {x d : D} {ys : List D} {Q : VK} (W : Wd C θ B Γ H s) (R : EnvR C θ Γ σ ρ)
    (e1 : ev P o ρ s = some (x, s1)) (e2 : ev P a ρ s1 = some (.tup ys, s')) (e3 : dme m x (.tup ys) = some d)
    (hr : ∀ vx vs θ' B' Γ' H', Gr C θ B Γ H s θ' B' Γ' H' s' → Rep C θ' Γ' vx x → Reps C θ' Γ' vs ys → rMe C.K m vx vs H' Q) : (rd C P (.me m o a)).te σ H Q :=
  ho _ _ _ _ _ _ _ _ _ _ W R e1 fun v1 θ1 B1 Γ1 H1 g1 r1 => by
    refine ⟨?_, ha _ _ _ _ _ _ _ _ _ _ g1.wd (g1.env R) e2 fun vs θ2 B2 Γ2 H2 g2 r2 => hr v1 vs _ _ _ _ (g1.trans g2) (g2.rep r1) r2⟩
    have : ∃ l, x = .str l := by
      unfold dme at e3
      split at e3 <;> first | exact ⟨_, rfl⟩ | cases e3
    obtain ⟨l, rfl⟩ := this
    cases r1
    exact rfl
theorem okF_me {m : Me} {o a : E} (ho : OkE C P o) (ha : OkA C P a) : OkF C P (.me m o a) := fun _ ρ σ θ B Γ H s ds s' Q W R he hq => by
  obtain ⟨x, s1, ys, e1, e2, e3⟩ := me_inv he
  exact tBM_ok ho ha W R e1 e2 e3 fun vx vs θ' B' Γ' H' g r ra => me_okF e3 g r ra hq
theorem ok_me {m : Me} {o a : E} (ho : OkE C P o) (ha : OkA C P a) : OkE C P (.me m o a) := fun ρ σ θ B Γ H s d s' Q W R he hq => by
  obtain ⟨x, s1, ys, e1, e2, e3⟩ := me_inv he
  refine tBM_ok ho ha W R e1 e2 e3 fun vx vs θ' B' Γ' H' g r ra => ?_
  by_cases hd : ∃ ds, d = .lst ds
  · obtain ⟨ds, rfl⟩ := hd
    exact me_okF e3 g r ra hq.f
  · exact me_ok e3 (fun ds z => hd ⟨ds, z⟩) g r ra hq
theorem ok_kget (T : TabOk C P) {t : Nat} {k : E} (hk : OkE C P k) : OkE C P (.kget t k) := fun ρ σ θ B Γ H s d s' Q W R he hq => by
  obtain ⟨x, s1, e1, he⟩ := bnd_inv he
  split at he
  · split at he
    · rename_i ht
      obtain ⟨e3, rfl⟩ := pair_inv (d := d) he
      refine hk _ _ _ _ _ _ _ _ _ _ W R e1 fun v1 θ1 B1 Γ1 H1 g1 r1 => ?_
      cases r1 with | str z hz =>
      obtain ⟨v, h1, h2⟩ := (T t ht z).1 d (by rw [hz]; exact e3)
      exact ⟨_, z, v, rfl, rfl, h1, hq _ _ _ _ _ g1 (h2 _ _)⟩
    · cases he
  · cases he
theorem kin_inv {t : Nat} {neg : Bool} {k : E} {ρ : Vw} {s s' : Ss} {d : D} (he : ev P (.kin t neg k) ρ s = some (d, s')) : ∃ l, ev P k ρ s = some (.str l, s') ∧ t < P.nt ∧ d = .bl (if neg then !(tget (P.T t) l).isSome else (tget (P.T t) l).isSome) := by
  obtain ⟨x, s1, e1, he⟩ := bnd_inv he
  split at he
  · split at he
    · rename_i ht
      cases he
      exact ⟨_, e1, ht, rfl⟩
    · cases he
  · cases he
theorem kin_ok (T : TabOk C P) {t : Nat} {neg : Bool} {l : List Nat} {v : V} {θ : List Addr} {Γ H : Hp} {Q : VK} (ht : t < P.nt) (r : Rep C θ Γ v (.str l)) (hq : Q (.bl (if neg then !(tget (P.T t) l).isSome else (tget (P.T t) l).isSome)) H) : rKin C.K (C.tabA t) neg v (.ref (C.tabA t)) H Q := by
  cases r with | str z hz =>
  obtain ⟨r, h1, h2⟩ := (T t ht z).2
  rw [hz] at h2
  rw [← h2] at hq
  cases neg with
  | false => exact ⟨z, r, rfl, rfl, h1, hq⟩
  | true => exact ⟨z, r, rfl, rfl, h1, hq⟩
theorem ok_kin (T : TabOk C P) {t : Nat} {neg : Bool} {k : E} (hk : OkE C P k) : OkE C P (.kin t neg k) := fun ρ σ θ B Γ H s d s' Q W R he hq => by
  obtain ⟨l, e1, ht, rfl⟩ := kin_inv he
  exact hk _ _ _ _ _ _ _ _ _ _ W R e1 fun v1 θ1 B1 Γ1 H1 g1 r1 => kin_ok T ht r1 (hq _ _ _ _ _ g1 (.bl _))
theorem okT_kin (T : TabOk C P) {t : Nat} {neg : Bool} {k : E} (hk : OkE C P k) : OkT C P (.kin t neg k) := fun ρ σ θ B Γ H s d s' b Q W R he hb hq => by
  obtain ⟨l, e1, ht, rfl⟩ := kin_inv he
  cases hb
  exact hk _ _ _ _ _ _ _ _ _ _ W R e1 fun v1 θ1 B1 Γ1 H1 g1 r1 => kin_ok (Q := fun x H' => ∃ k, x = .bl k ∧ Q k H') T ht r1 ⟨_, rfl, hq _ _ _ _ g1⟩
/-! ### cells -/
theorem crel_get {θ : List Addr} {B Γ : Hp} {k : Nat} {d : D} : ∀ {kvs : List (Key × V)} {c : Cell}, CRel C θ B Γ kvs c → cget c k = some d → ∃ v, valV kvs (.inr (C.key k)) = some v ∧ (Rep C θ B v d ∨ (pur d = true ∧ Rep C θ Γ v d)) ∧ k < C.nk
  | _, _, .nil, h => by simp [cget] at h
  | p :: kvs, q :: c, .cons r rr, h => by
    obtain ⟨h1, h2, h3⟩ := r
    by_cases e : q.1 = k
    · subst e
      have : q.2 = d := by simpa [cget] using h
      subst this
      exact ⟨p.2, valV_pos h1, h3, h2⟩
    · have h' : cget c k = some d := by simpa [cget, List.find?_cons, e] using h
      obtain ⟨v, e1, r1, hk⟩ := crel_get rr h'
      refine ⟨v, ?_, r1, hk⟩
      rw [valV_neg]
      · exact e1
      · rw [h1]
        intro z
        injection z with z
        exact e (C.kinj _ _ h2 hk z)
theorem ok_dget {o : E} {k : Nat} (ho : OkE C P o) : OkE C P (.dget o k) := fun ρ σ θ B Γ H s d s' Q W R he hq => by
  obtain ⟨x, s1, e1, he⟩ := bnd_inv he
  split at he
  · rename_i c
    obtain ⟨cl, e2, he⟩ := bind_inv he
    obtain ⟨e3, rfl⟩ := pair_inv (d := d) he
    refine ho _ _ _ _ _ _ _ _ _ _ W R e1 fun v1 θ1 B1 Γ1 H1 g1 r1 => ?_
    cases r1 with | loc ha =>
    obtain ⟨_, kvs, e4, r4⟩ := g1.wd.cl _ _ _ ha e2
    obtain ⟨v, e5, r5, _⟩ := crel_get r4 e3
    refine ⟨_, v, rfl, ?_, hq _ _ _ _ _ g1 ?_⟩
    · rw [← e5]
      exact DGet.k (k := Sum.inr (C.key k)) e4
    · rcases r5 with r5 | ⟨_, r5⟩
      · exact r5.mono g1.wd.bg fun _ _ z => z
      · exact r5
  · cases he
/-! ### calls -/
theorem okF_call {f : Nat} {a : E} (ha : OkA C P a) : OkF C P (.call f a) := fun hf ρ σ θ B Γ H s ds s' Q W R he hq => by
  obtain ⟨x, s1, e1, he⟩ := bnd_inv he
  split at he
  · rename_i xs
    refine ha _ _ _ _ _ _ _ _ _ _ W R e1 fun vs θ1 B1 Γ1 H1 g1 r1 => ?_
    rw [List.append_nil]
    refine ⟨θ1, B1, Γ1, s1, xs, .lst ds, s', g1.wd, r1, he, ?_⟩
    have hf : P.fr f = true := hf
    rw [hf]
    exact ⟨ds, rfl, fun p ws θ2 B2 Γ2 H2 g2 h0 h1 h2 h3 r2 => hq p ws _ _ _ _ (g1.trans g2) (g1.free0 h0) h1 h2 h3 r2⟩
  · cases he
theorem ok_call (F : FrOk P) {f : Nat} {a : E} (ha : OkA C P a) : OkE C P (.call f a) := fun ρ σ θ B Γ H s d s' Q W R he hq => by
  cases hf : P.fr f with
  | true =>
    have he0 := he
    obtain ⟨x, s1, e1, he⟩ := bnd_inv he
    split at he
    · obtain ⟨ds, rfl⟩ := F _ _ _ _ _ hf he
      exact okF_call ha hf _ _ _ _ _ _ _ _ _ _ W R he0 hq.f
    · cases he
  | false =>
    obtain ⟨x, s1, e1, he⟩ := bnd_inv he
    split at he
    · rename_i xs
      refine ha _ _ _ _ _ _ _ _ _ _ W R e1 fun vs θ1 B1 Γ1 H1 g1 r1 => ?_
      rw [List.append_nil]
      refine ⟨θ1, B1, Γ1, s1, xs, d, s', g1.wd, r1, he, ?_⟩
      rw [hf]
      exact fun v θ2 B2 Γ2 H2 g2 r2 => hq _ _ _ _ _ (g1.trans g2) r2
    · cases he
/-! ### a new cell -/
def keyV (C : Cn) : List Nat → List V → List (V × V)
  | k :: ks, v :: vs => (.str (C.key k), v) :: keyV C ks vs
  | _, _ => []
def OkL (C : Cn) (P : Par) (e : E) : Prop := isArg e = true → ∀ ρ σ θ B Γ H s ds s' (ks : List Nat) Q, ks.length = ds.length → Wd C θ B Γ H s → EnvR C θ Γ σ ρ → ev P e ρ s = some (.tup ds, s') → PostA C θ B Γ H s s' ds (fun vs H' => Q (keyV C ks vs) H') → tPairs (keyP C ks (rd C P e).tl) σ H Q
theorem okL_none {e : E} (h : isArg e = false) : OkL C P e := fun z => by rw [h] at z; cases z
theorem okL_nil : OkL C P .nil := fun _ ρ σ θ B Γ H s ds s' ks Q hl W R he hq => by
  cases he
  cases ks with
  | nil => exact hq _ _ _ _ _ (Gr.refl W) .nil
  | cons _ _ => cases hl
theorem okL_cons {a r : E} (ha : OkE C P a) (hr : OkL C P r) : OkL C P (.cons a r) := fun hi ρ σ θ B Γ H s ds s' ks Q hl W R he hq => by
  obtain ⟨x, s1, ys, e1, e2, e3⟩ := cons_inv he
  cases e3
  cases ks with
  | nil => cases hl
  | cons k ks =>
    have hl : ks.length = ys.length := by simpa using hl
    refine ha _ _ _ _ _ _ _ _ _ _ W R e1 fun v1 θ1 B1 Γ1 H1 g1 r1 => hr hi _ _ _ _ _ _ _ _ _ ks _ hl g1.wd (g1.env R) e2 fun vs θ2 B2 Γ2 H2 g2 r2 => ?_
    exact hq (v1 :: vs) _ _ _ _ (g1.trans g2) (.cons (g2.rep r1) r2)
def keyK (C : Cn) : List Nat → List V → List (Key × V)
  | k :: ks, v :: vs => (.inr (C.key k), v) :: keyK C ks vs
  | _, _ => []
theorem keyV_K : ∀ (ks : List Nat) (vs : List V), keyV C ks vs = (keyK C ks vs).map fun kv => (kV kv.1, kv.2)
  | [], _ => rfl
  | _ :: _, [] => rfl
  | k :: ks, v :: vs => by
    show (V.str (C.key k), v) :: keyV C ks vs = _
    rw [keyV_K ks vs]; rfl
theorem keyK_len : ∀ {ks : List Nat} {vs : List V}, ks.length = vs.length → (keyK C ks vs).length = ks.length
  | [], [], _ => rfl
  | k :: ks, v :: vs, h => by simp [keyK, keyK_len (ks := ks) (vs := vs) (by simpa using h)]
theorem keyK_mem : ∀ {ks : List Nat} {vs : List V} {p : Key × V}, p ∈ keyK C ks vs → ∃ k ∈ ks, p.1 = .inr (C.key k)
  | [], _, _, h => by simp [keyK] at h
  | _ :: _, [], _, h => by simp [keyK] at h
  | k :: ks, v :: vs, p, h => by
    simp only [keyK, List.mem_cons] at h
    rcases h with rfl | h
    · exact ⟨k, by simp, rfl⟩
    · obtain ⟨k', h1, h2⟩ := keyK_mem h
      exact ⟨k', by simp [h1], h2⟩
theorem valV_out {k : Key} : ∀ {kvs : List (Key × V)}, (∀ p ∈ kvs, p.1 ≠ k) → valV kvs k = none
  | [], _ => rfl
  | p :: r, h => by
    rw [valV_neg (h p (by simp))]
    exact valV_out fun q hq => h q (by simp [hq])
theorem merge_app (C : Cn) : ∀ (ks : List Nat) (vs : List V) (acc : List (Key × V)), ks.Nodup → (∀ k ∈ ks, k < C.nk) → (∀ p ∈ acc, ∀ k ∈ ks, p.1 ≠ .inr (C.key k)) → mergeK acc (keyK C ks vs) = acc ++ keyK C ks vs
  | [], _, acc, _, _, _ => by simp [keyK, mergeK]
  | _ :: _, [], acc, _, _, _ => by simp [keyK, mergeK]
  | k :: ks, v :: vs, acc, nd, hk, ha => by
    show mergeK (putK acc (.inr (C.key k)) v) (keyK C ks vs) = _
    rw [putK_new _ (valV_out fun p hp => ha p hp k (by simp))]
    have nd := List.nodup_cons.mp nd
    rw [merge_app C ks vs _ nd.2 (fun j hj => hk j (by simp [hj]))]
    · simp [keyK]
    · intro p hp j hj
      rcases List.mem_append.mp hp with hp | hp
      · exact ha p hp j (by simp [hj])
      · have : p = (.inr (C.key k), v) := by simpa using hp
        subst this
        intro z
        injection z with z
        have := C.kinj _ _ (hk k (by simp)) (hk j (by simp [hj])) z
        subst this
        exact nd.1 hj
theorem cel_rel {θ : List Addr} {B Γ : Hp} : ∀ {ks : List Nat} {vs : List V} {ds : List D}, (∀ k ∈ ks, k < C.nk) → ks.length = ds.length → Reps C θ B vs ds → CRel C θ B Γ (keyK C ks vs) (ks.zip ds)
  | [], _, _, _, _, _ => .nil
  | k :: ks, _, [], _, h, _ => by cases h
  | k :: ks, _, d :: ds, hk, h, r => by
    cases r with | cons h0 r0 =>
    exact .cons ⟨rfl, hk k (by simp), .inl h0⟩ (cel_rel (fun j hj => hk j (by simp [hj])) (by simpa using h) r0)
theorem ok_cel (hnk : P.nk = C.nk) {ks : List Nat} {a : E} (ha : OkL C P a) : OkE C P (.cel ks a) := fun ρ σ θ B Γ H s d s' Q W R he hq => by
  obtain ⟨x, s1, e1, he⟩ := bnd_inv he
  split at he
  · rename_i xs
    split at he
    · rename_i hc
      obtain ⟨hi, hl, h0, h15, hnd, hk⟩ := hc
      cases he
      have hk : ∀ k ∈ ks, k < C.nk := fun k hk' => by
        have := List.all_eq_true.mp hk k hk'
        rw [← hnk]
        exact of_decide_eq_true this
      intro p hp
      have gp := Gr.put (o := .dK []) W hp
      refine ha hi _ _ _ _ _ _ _ _ _ ks _ hl.symm gp.wd (gp.env R) e1 fun vs θ2 B2 Γ2 H2 g2 r2 => ?_
      have hp2 : H2 p = some (.dK []) := g2.kp _ _ upd_same (W.free hp)
      have hlv : ks.length = vs.length := by rw [r2.length]; exact hl.symm
      refine ⟨hp2, keyK C ks vs, keyV_K _ _, by rw [keyK_len hlv]; exact h15, ?_⟩
      rw [merge_app C ks vs [] hnd hk (fun p hp => by cases hp), List.nil_append]
      have g := gp.trans g2
      have hpG : Γ2 p = none := g2.nw _ (W.gfree hp) (by rw [upd_same]; exact fun z => nomatch z)
      have hpT : p ∉ θ2 := fun z => by
        rcases g2.tn _ z with z | z
        · exact W.free hp z
        · rw [upd_same] at z; cases z
      have hbg : Same B2 Γ2 := g2.wd.bg
      have get2 : ∀ {i : Nat} {b : Addr}, (θ2 ++ [p])[i]? = some b → (θ2[i]? = some b ∧ i < θ2.length) ∨ (i = θ2.length ∧ b = p) := fun {i b} e => by
        by_cases hi : i < θ2.length
        · rw [List.getElem?_append_left hi] at e
          exact .inl ⟨e, hi⟩
        · rw [List.getElem?_append_right (by omega)] at e
          have : i - θ2.length = 0 := by
            have := (List.getElem?_eq_some_iff.mp e).1
            simpa using this
          rw [this] at e
          simp at e
          exact .inr ⟨by omega, e.symm⟩
      have tmono : ∀ (i : Nat) (b : Addr), θ2[i]? = some b → (θ2 ++ [p])[i]? = some b := fun i b e => by
        rw [List.getElem?_append_left (List.getElem?_eq_some_iff.mp e).1]; exact e
      have W' : Wd C (θ2 ++ [p]) Γ2 Γ2 (upd H2 p (.dK (keyK C ks vs))) (s1 ++ [ks.zip xs]) := by
        refine ⟨fun b o e => ?_, Same.refl _, by simp [g2.wd.len], ?_, fun b m => ?_, fun i b c e1 e2 => ?_⟩
        · have : b ≠ p := fun z => by rw [z, hpG] at e; cases e
          rw [upd_ne this]; exact g2.wd.gh b o e
        · rw [List.nodup_append]
          exact ⟨g2.wd.nd, by simp, fun b hb c hc => by
            have : c = p := by simpa using hc
            subst this
            exact fun z => hpT (by rw [← z]; exact hb)⟩
        · rcases List.mem_append.mp m with m | m
          · exact g2.wd.ap b m
          · have : b = p := by simpa using m
            subst this; exact hpG
        · rcases get2 e1 with ⟨e1, hi⟩ | ⟨rfl, rfl⟩
          · rw [List.getElem?_append_left (by rw [← g2.wd.len]; exact hi)] at e2
            obtain ⟨l, kvs, e, r⟩ := g2.wd.cl i b c e1 e2
            have : b ≠ p := fun z => hpT (by rw [← z]; exact List.mem_of_getElem? e1)
            exact ⟨l, kvs, by rw [upd_ne this]; exact e, r.mono hbg (Same.refl _) tmono⟩
          · rw [List.getElem?_append_right (by rw [g2.wd.len]; exact Nat.le_refl _), g2.wd.len, Nat.sub_self] at e2
            simp at e2
            subst e2
            exact ⟨by simp; omega, _, upd_same, cel_rel hk hl.symm (r2.mono (Same.refl _) tmono)⟩
      refine hq _ _ _ _ _ ⟨W', g.gg, fun b o e m => ?_, g.nw, fun i b e => tmono i b (g.th i b e), fun b m => ?_, fun z => ?_, ?_⟩ (.loc ?_)
      · rw [upd_ne (ne_of_none e hp)]; exact g.kp b o e m
      · rcases List.mem_append.mp m with m | m
        · exact g.tn b m
        · have : b = p := by simpa using m
          subst this; exact .inr hp
      · have := g.le
        simp at z
        omega
      · have := g.le
        simp
        omega
      · rw [← g2.wd.len]
        simp
    · cases he
  · cases he
end
end DL
set_option Elab.async false
set_option linter.all false
set_option maxRecDepth 100000
set_option maxHeartbeats 1000000
/-! .. what is walked, list comprehensions; the whole: sound. -/
namespace DL
open PySem L2
structure Walk (C : Cn) (J : It) (θ : List Addr) (Γ : Hp) (xs : List D) : Prop where
  go : ∀ i, i < xs.length → ∀ H', Same Γ H' → J.go i H'
  stop : ∀ H', Same Γ H' → J.stop xs.length H'
  yld : ∀ i H' v H'', i < xs.length → Same Γ H' → J.yld i H' v H'' → ∃ x, xs[i]? = some x ∧ ((H'' = H' ∧ Rep C θ Γ v x) ∨ ∃ T vs ds, v = .ref T ∧ H' T = none ∧ H'' = upd H' T (.tup vs) ∧ x = .tup ds ∧ Reps C θ Γ vs ds)
theorem sqL_one {K : PySem.W.Frag} {H : Hp} {a : Addr} {xs ys : List V} (h : H a = some (.lst xs)) (q : SqL K H a ys) : ys = xs ∨ ∃ o its n, K.lookup a = some o ∧ o.cls = .type "list" ∧ o.dict = none ∧ o.data = .seq its n ∧ its.size ≤ sizeLine ∧ Vals ys its.toList := by
  rcases q with (q | ⟨o, q⟩) | q
  · rw [h] at q; cases q; exact .inl rfl
  · rw [h] at q; cases q
  · exact .inr q
section
variable {C : Cn} {P : Par} {θ : List Addr} {Γ : Hp}
theorem walk_lst {a : Addr} {vs : List V} {xs : List D} (h : SqL C.K Γ a vs) (r : Reps C θ Γ vs xs) : Walk C (Itl C.K a) θ Γ xs where
  go := fun i hi H' e => by
    have hv : i < vs.length := by rw [r.length]; exact hi
    exact ⟨vs, vs[i], e.seq h, List.getElem?_eq_getElem hv⟩
  stop := fun H' e => ⟨vs, e.seq h, by rw [r.length]; exact Nat.le_refl _⟩
  yld := fun i H' v H'' hi e y => by
    obtain ⟨y1, y2⟩ := y
    obtain ⟨x, e1, r1⟩ := r.getV (y2 vs (e.seq h))
    exact ⟨x, e1, .inl ⟨y1, r1⟩⟩
theorem walk_tup {a : Addr} {vs : List V} {xs : List D} (h : SqT C.K Γ a vs) (r : Reps C θ Γ vs xs) : Walk C (Itt C.K a) θ Γ xs where
  go := fun i hi H' e => by
    have hv : i < vs.length := by rw [r.length]; exact hi
    exact ⟨vs, vs[i], Same.seqT e h, List.getElem?_eq_getElem hv⟩
  stop := fun H' e => ⟨vs, Same.seqT e h, by rw [r.length]; exact Nat.le_refl _⟩
  yld := fun i H' v H'' hi e y => by
    obtain ⟨y1, y2⟩ := y
    obtain ⟨x, e1, r1⟩ := r.getV (y2 vs (Same.seqT e h))
    exact ⟨x, e1, .inl ⟨y1, r1⟩⟩
theorem walk_str (x : Str) : Walk C (Its x) θ Γ (x.cps.toList.map fun c => .str [c]) where
  go := fun i hi H' e => by
    show i < x.cps.size
    simpa using hi
  stop := fun H' e => by show x.cps.size ≤ _; simp
  yld := fun i H' v H'' hi e y => by
    obtain ⟨y1, c, y2, rfl⟩ := y
    refine ⟨.str [c], ?_, .inl ⟨y1, .str _ rfl⟩⟩
    rw [List.getElem?_map]
    have : x.cps.toList[i]? = some c := by rw [Array.getElem?_toList]; exact y2
    rw [this]; rfl
theorem walk_rng {lo : Int} {n : Nat} : Walk C (Itr lo n) θ Γ ((List.range n).map fun j : Nat => .int (lo + (j : Int))) where
  go := fun i hi H' e => by
    show i < n
    simpa using hi
  stop := fun H' e => by show n ≤ _; simp
  yld := fun i H' v H'' hi e y => by
    obtain ⟨y1, rfl⟩ := y
    have hi' : i < n := by simpa using hi
    exact ⟨.int (lo + i), by simp [hi'], .inl ⟨y1, .int _⟩⟩
theorem walk_rngC {c : Int} {n : Nat} : Walk C (Itc 0 c n) θ Γ ((List.range n).map fun j : Nat => .int ((j : Int) * c)) where
  go := fun i hi H' e => by
    have : i < n := by simpa using hi
    exact this
  stop := fun H' e => by show n ≤ _; simp
  yld := fun i H' v H'' hi e y => by
    obtain ⟨y1, rfl⟩ := y
    have hi' : i < n := by simpa using hi
    exact ⟨.int ((i : Int) * c), by simp [hi'], .inl ⟨y1, by rw [Int.zero_add]; exact .int _⟩⟩
theorem zipD_len : ∀ {xs ys : List D}, (zipD xs ys).length = min xs.length ys.length
  | [], _ => by simp [zipD]
  | _ :: _, [] => by simp [zipD]
  | x :: xs, y :: ys => by simp [zipD, zipD_len (xs := xs) (ys := ys)]
theorem zipD_get : ∀ {xs ys : List D} {i : Nat} {x y : D}, xs[i]? = some x → ys[i]? = some y → (zipD xs ys)[i]? = some (.tup [x, y])
  | [], _, _, _, _, h, _ => by simp at h
  | _ :: _, [], _, _, _, _, h => by simp at h
  | x :: xs, y :: ys, 0, _, _, h1, h2 => by simp at h1 h2; subst h1; subst h2; simp [zipD]
  | x :: xs, y :: ys, i + 1, _, _, h1, h2 => by simpa [zipD] using zipD_get (xs := xs) (ys := ys) (i := i) (by simpa using h1) (by simpa using h2)
theorem walk_zipL {a b : Addr} {vs ws : List V} {xs ys : List D} (h : Γ a = some (.lst vs)) (r : Reps C θ Γ vs xs) (h2 : Γ b = some (.lst ws)) (r2 : Reps C θ Γ ws ys) : Walk C (Itz C.K a b) θ Γ (zipD xs ys) where
  go := fun i hi H' e => by
    rw [zipD_len] at hi
    have hv : i < vs.length := by rw [r.length]; omega
    have hw : i < ws.length := by rw [r2.length]; omega
    exact ⟨vs, ws, vs[i], ws[i], sqL_of (e _ _ h), sqL_of (e _ _ h2), List.getElem?_eq_getElem hv, List.getElem?_eq_getElem hw⟩
  stop := fun H' e => ⟨vs, ws, sqL_of (e _ _ h), sqL_of (e _ _ h2), by
    have l1 := r.length
    have l2 := r2.length
    have l3 := zipD_len (xs := xs) (ys := ys)
    omega⟩
  yld := fun i H' v H'' hi e y => by
    obtain ⟨T, x, z, y1, y2, y3, y4, y5⟩ := y
    obtain ⟨x', e1, r1⟩ := r.getV (y4 vs (sqL_of (e _ _ h)))
    obtain ⟨z', e3, r3⟩ := r2.getV (y5 ws (sqL_of (e _ _ h2)))
    exact ⟨_, zipD_get e1 e3, .inr ⟨T, _, _, y1, y2, y3, rfl, .cons r1 (.cons r3 .nil)⟩⟩
theorem range_small {b c : Int} (h0 : 0 ≤ b) (h1 : b < 2 ^ 62) (h2 : 0 < c) (h3 : c < 1073741824) : RgC 0 b c ((b + c - 1) / c).toNat := by
  have e := PyProof.Rows.rangeSize_pos (len := b) (c := c) (by omega) h0
  have hle : (b + c - 1) / c * c ≤ b + c - 1 := Int.ediv_mul_le _ (by omega)
  have hnn : 0 ≤ (b + c - 1) / c := Int.ediv_nonneg (by omega) (by omega)
  have hle2 : (b + c - 1) / c ≤ b + c - 1 := by
    have : (b + c - 1) / c * 1 ≤ (b + c - 1) / c * c := Int.mul_le_mul_of_nonneg_left (by omega) hnn
    omega
  refine ⟨by omega, by omega, ?_, ?_⟩
  · unfold PySem.Builtin.Range.small
    rw [e]
    simp only [PySem.Builtin.Range.rangeFitsLong, Bool.and_eq_true, Bool.or_eq_true, decide_eq_true_eq, beq_iff_eq, show c > 0 from h2, if_true]
    exact ⟨⟨⟨⟨by omega, by omega⟩, by omega⟩, by omega⟩, .inr (by omega)⟩
  · rw [e]; omega
theorem it_ok {k : Itk} {src : E} (hE : OkE C P src) (hA : OkA C P src) {ρ : Vw} {σ : St} {θ : List Addr} {B Γ H : Hp} {s s1 : Ss} {d : D} {xs : List D} {R : It → Hp → Prop} (W : Wd C θ B Γ H s) (Rr : EnvR C θ Γ σ ρ)
    (e : ev P src ρ s = some (d, s1)) (hi : items k d = some xs) (hR : ∀ J θ1 B1 Γ1 H1, Gr C θ B Γ H s θ1 B1 Γ1 H1 s1 → Walk C J θ1 Γ1 xs → R J H1) : rdIt C.K k (rd C P src).te (rd C P src).ta σ H R := by
  unfold items at hi
  split at hi
  · cases hi
    refine hE _ _ _ _ _ _ _ _ _ _ W Rr e fun v θ1 B1 Γ1 H1 g r => ?_
    cases r with | lst hs r =>
    exact ⟨_, rfl, ⟨_, sqL_of (g.wd.gh _ _ hs)⟩, hR _ _ _ _ _ g (walk_lst (sqL_of hs) r)⟩
  · cases hi
    refine hE _ _ _ _ _ _ _ _ _ _ W Rr e fun v θ1 B1 Γ1 H1 g r => ?_
    cases r with | lsk hs r =>
    exact ⟨_, rfl, ⟨_, g.wd.gh.seq hs⟩, hR _ _ _ _ _ g (walk_lst hs r)⟩
  · cases hi
    refine hE _ _ _ _ _ _ _ _ _ _ W Rr e fun v θ1 B1 Γ1 H1 g r => ?_
    cases r with | tup hs r =>
    exact ⟨_, rfl, ⟨_, Same.seqT g.wd.gh hs⟩, hR _ _ _ _ _ g (walk_tup hs r)⟩
  · cases hi
    refine hE _ _ _ _ _ _ _ _ _ _ W Rr e fun v θ1 B1 Γ1 H1 g r => ?_
    cases r with | str x hx =>
    subst hx
    exact ⟨_, rfl, hR _ _ _ _ _ g (walk_str x)⟩
  · split at hi
    · rename_i hf
      cases hi
      refine hA _ _ _ _ _ _ _ _ _ _ W Rr e fun vs θ1 B1 Γ1 H1 g r => ?_
      cases r with | cons h0 r0 =>
      cases r0
      cases h0
      refine ⟨_, rfl, hf.1, hf.2, hR _ _ _ _ _ g ?_⟩
      rename_i n0
      have := walk_rng (C := C) (θ := θ1) (Γ := Γ1) (lo := 0) (n := n0.toNat)
      simp only [Int.zero_add] at this
      exact this
    · cases hi
  · split at hi
    · rename_i hf
      cases hi
      refine hA _ _ _ _ _ _ _ _ _ _ W Rr e fun vs θ1 B1 Γ1 H1 g r => ?_
      cases r with | cons h0 r0 =>
      cases r0 with | cons h1 r1 =>
      cases r1
      cases h0
      cases h1
      exact ⟨_, _, rfl, ⟨hf.1.1, hf.1.2, hf.2.1, hf.2.2⟩, hR _ _ _ _ _ g walk_rng⟩
    · cases hi
  · split at hi
    · rename_i hf
      cases hi
      refine hA _ _ _ _ _ _ _ _ _ _ W Rr e fun vs θ1 B1 Γ1 H1 g r => ?_
      cases r with | cons h0 r0 =>
      cases r0 with | cons h1 r1 =>
      cases r1 with | cons h2 r2 =>
      cases r2
      cases h0
      cases h1
      cases h2
      exact ⟨_, _, _, _, rfl, range_small hf.1 hf.2.1 hf.2.2.1 hf.2.2.2, hR _ _ _ _ _ g walk_rngC⟩
    · cases hi
  · cases hi
    refine hA _ _ _ _ _ _ _ _ _ _ W Rr e fun vs θ1 B1 Γ1 H1 g r => ?_
    cases r with | cons h0 r0 =>
    cases r0 with | cons h1 r1 =>
    cases r1
    cases h0 with | lst hs0 r0 =>
    cases h1 with | lst hs1 r1 =>
    exact ⟨_, _, _, _, rfl, sqL_of (g.wd.gh _ _ hs0), sqL_of (g.wd.gh _ _ hs1), hR _ _ _ _ _ g (walk_zipL hs0 r0 hs1 r1)⟩
  · cases hi
    refine hA _ _ _ _ _ _ _ _ _ _ W Rr e fun vs θ1 B1 Γ1 H1 g r => ?_
    cases r with | cons h0 r0 =>
    cases r0 with | cons h1 r1 =>
    cases r1
    cases h0 with | str x hx =>
    cases h1 with | lst h2 r2 =>
    subst hx
    refine ⟨_, _, _, rfl, sqL_of (g.wd.gh _ _ h2), hR _ _ _ _ _ g ?_⟩
    have l2 := r2.length
    refine ⟨fun i hi H' e => ?_, fun H' e => ?_, fun i H' v H'' hi e y => ?_⟩
    · rw [zipD_len] at hi
      have h4 : i < x.cps.toList.length := by simp at hi ⊢; omega
      have h5 : i < _ := Nat.lt_of_lt_of_le hi (Nat.min_le_right _ _)
      refine ⟨x.cps.toList[i], _, _, sqL_of (e _ _ h2), List.getElem?_eq_getElem h4, List.getElem?_eq_getElem (by omega)⟩
    · refine ⟨_, sqL_of (e _ _ h2), ?_, ?_⟩
      · rw [zipD_len]
        simp
        omega
      · rw [zipD_len]
        simp
        omega
    · obtain ⟨T, c, z, y1, y2, y3, y4, y5⟩ := y
      obtain ⟨z', e3, r3⟩ := r2.getV (y5 _ (sqL_of (e _ _ h2)))
      refine ⟨_, zipD_get (x := .str [c]) ?_ e3, .inr ⟨T, _, _, y1, y2, y3, rfl, .cons (.str _ rfl) (.cons r3 .nil)⟩⟩
      rw [List.getElem?_map, y4]; rfl
  · cases hi
end
/-! ### targets in a block -/
theorem wipe_set {i : Nat} {x : V} : ∀ {own : List Nat} {σ : St}, i ∈ own → wipe (σ.set i (some x)) own = wipe σ own
  | j :: own, σ, h => by
    unfold wipe
    by_cases e : i ∈ own
    · rw [wipe_set e]
    · have : i = j := by simp at h; rcases h with h | h; exact h; exact absurd h e
      subst this
      have key : ∀ (own : List Nat) (σ : St), i ∉ own → wipe (σ.set i (some x)) own = (wipe σ own).set i (some x) := by
        intro own
        induction own with
        | nil => intro σ _; rfl
        | cons k own ih =>
          intro σ hk
          unfold wipe
          rw [ih σ (fun z => hk (by simp [z])), List.set_comm]
          exact fun z => hk (by simp [z])
      rw [key own σ e, List.set_set]
theorem wipe_wipe {own : List Nat} {σ : St} : wipe (wipe σ own) own = wipe σ own := by
  have key : ∀ (own : List Nat) (σ : St) (j : Nat), wipe (σ.set j none) own = (wipe σ own).set j none := by
    intro own
    induction own with
    | nil => intro σ j; rfl
    | cons k own ih =>
      intro σ j
      unfold wipe
      rw [ih]
      by_cases e : j = k
      · subst e; rw [List.set_set]
      · rw [List.set_comm]; exact fun z => e z
  induction own generalizing σ with
  | nil => rfl
  | cons j own ih =>
    show (wipe ((wipe σ own).set j none) own).set j none = (wipe σ own).set j none
    rw [key, ih, List.set_set]
section
variable {C : Cn} {θ : List Addr} {Γ : Hp}
theorem EnvR.wipe {σ : St} {ρ : Vw} : ∀ {own : List Nat}, EnvR C θ Γ σ ρ → EnvR C θ Γ (L2.wipe σ own) (wipeO ρ own)
  | [], R => R
  | j :: own, R => by
    have ih := R.wipe (own := own)
    refine ⟨by show ((L2.wipe σ own).set j none).length = ((wipeO ρ own).set j none).length; rw [List.length_set, List.length_set]; exact ih.len, fun i d h => ?_⟩
    have h : ((wipeO ρ own).set j none)[i]? = some (some d) := h
    by_cases e : j = i
    · subst e
      rw [List.getElem?_set] at h
      simp at h
    · rw [List.getElem?_set_ne e] at h
      obtain ⟨v, e1, r⟩ := ih.at_ i d h
      exact ⟨v, by show ((L2.wipe σ own).set j none)[i]? = _; rw [List.getElem?_set_ne e]; exact e1, r⟩
theorem EnvR.set {σ : St} {ρ : Vw} {i : Nat} {v : V} {d : D} (R : EnvR C θ Γ σ ρ) (r : Rep C θ Γ v d) : EnvR C θ Γ (σ.set i (some v)) (ρ.set i (some d)) := by
  refine ⟨by rw [List.length_set, List.length_set]; exact R.len, fun j d' h => ?_⟩
  by_cases e : i = j
  · subst e
    by_cases hl : i < ρ.length
    · rw [List.getElem?_set_self hl] at h
      cases h
      exact ⟨v, by rw [List.getElem?_set_self (by rw [R.len]; exact hl)], r⟩
    · rw [List.getElem?_eq_none (by rw [List.length_set]; omega)] at h
      cases h
  · rw [List.getElem?_set_ne e] at h
    obtain ⟨v', e1, r'⟩ := R.at_ j d' h
    exact ⟨v', by rw [List.getElem?_set_ne e]; exact e1, r'⟩
theorem gs_ok : ∀ {is : List Nat} {xs : List D} {vs : List V} {ρ ρ' : Vw} {σ : St} {H : Hp} {Q : St → Hp → Prop}, setsO ρ is xs = some ρ' → Reps C θ Γ vs xs → EnvR C θ Γ σ ρ →
    (∀ σ', EnvR C θ Γ σ' ρ' → (∀ own : List Nat, (∀ i ∈ is, i ∈ own) → wipe σ' own = wipe σ own) → Q σ' H) → gsN is vs σ H Q
  | [], [], _, ρ, ρ', σ, H, Q, h, r, R, hq => by
    cases r; cases h
    exact ⟨rfl, hq σ R fun _ _ => rfl⟩
  | [], _ :: _, _, _, _, _, _, _, h, _, _, _ => by cases h
  | i :: is, [], _, _, _, _, _, _, h, _, _, _ => by cases h
  | i :: is, x :: xs, _, ρ, ρ', σ, H, Q, h, r, R, hq => by
    cases r with | cons h0 r0 =>
    unfold setsO at h
    split at h
    · refine ⟨_, _, rfl, gs_ok h r0 (R.set h0) fun σ' R' hw => hq σ' R' fun own ho => ?_⟩
      rw [hw own (fun j hj => ho j (by simp [hj])), wipe_set (ho i (by simp))]
    · cases h
theorem g_ok {tg : Tg} {x : D} {v : V} {ρ ρ' : Vw} {σ : St} {H : Hp} {Q : St → Hp → Prop} (e : Same Γ H) (h : tgO tg x ρ = some ρ') (r : Rep C θ Γ v x) (R : EnvR C θ Γ σ ρ)
    (hq : ∀ σ', EnvR C θ Γ σ' ρ' → (∀ own : List Nat, tgIn tg own = true → wipe σ' own = wipe σ own) → Q σ' H) : rdG C.K tg v σ H Q := by
  cases tg with
  | nm i =>
    simp only [tgO] at h
    split at h
    · cases h
      exact hq _ (R.set r) fun own ho => wipe_set (of_decide_eq_true ho)
    · cases h
  | tps is =>
    cases x <;> try (simp [tgO] at h; done)
    rename_i xs
    cases r with | tup hs rr =>
    have h : setsO ρ is xs = some ρ' := h
    have hlen : ∀ {is : List Nat} {xs : List D} {ρ ρ' : Vw}, setsO ρ is xs = some ρ' → xs.length = is.length := by
      intro is
      induction is with
      | nil => intro xs ρ ρ' h; cases xs with
        | nil => rfl
        | cons _ _ => cases h
      | cons i is ih => intro xs ρ ρ' h; cases xs with
        | nil => cases h
        | cons x xs => unfold setsO at h; split at h; simp [ih h]; cases h
    refine ⟨_, _, rfl, Same.seqT e hs, by rw [rr.length, hlen h], gs_ok h rr R fun σ' R' hw => hq σ' R' fun own ho => hw own fun i hi => ?_⟩
    have := List.all_eq_true.mp ho i hi
    exact of_decide_eq_true this
end
theorem Gr.poke {C : Cn} {θ θ1 : List Addr} {B Γ H B1 Γ1 H1 : Hp} {s s1 : Ss} (g : Gr C θ B Γ H s θ1 B1 Γ1 H1 s1) {p : Addr} {o : HO} (h0 : H p = none) (hg : Γ1 p = none) (ht : p ∉ θ1) : Gr C θ B Γ H s θ1 B1 Γ1 (upd H1 p o) s1 := by
  have hne : ∀ {a : Addr} {u : HO}, Γ1 a = some u → a ≠ p := fun {a u} e z => by rw [z, hg] at e; cases e
  refine ⟨⟨fun a u e => by rw [upd_ne (hne e)]; exact g.wd.gh a u e, g.wd.bg, g.wd.len, g.wd.nd, g.wd.ap, fun i a c e1 e2 => ?_⟩, g.gg, fun a u e m => ?_, g.nw, g.th, g.tn, g.sm, g.le⟩
  · obtain ⟨l, kvs, e, r⟩ := g.wd.cl i a c e1 e2
    have : a ≠ p := fun z => ht (by rw [← z]; exact List.mem_of_getElem? e1)
    exact ⟨l, kvs, by rw [upd_ne this]; exact e, r⟩
  · rw [upd_ne (ne_of_none e h0)]; exact g.kp a u e m
section
variable {C : Cn} {P : Par}
theorem compF_len {step : D → Ss → Option (Option D × Ss)} : ∀ {xs : List D} {s s' : Ss} {ds : List D}, compF step xs s = some (ds, s') → ds.length ≤ xs.length
  | [], _, _, _, h => by cases h; exact Nat.le_refl _
  | x :: r, s, s', ds, h => by
    unfold compF at h
    split at h
    · cases h
    · split at h
      · cases h
      · rename_i o s1 e1 _ ds2 s2 e2
        cases h
        have := compF_len e2
        cases o <;> simp <;> omega
theorem comp_inv {k : Itk} {src : E} {tg : Tg} {own : List Nat} {c e : E} {ρ : Vw} {s s' : Ss} {d : D} (he : ev P (.comp k src tg own c e) ρ s = some (d, s')) : ∃ ds dsrc s1 xs, d = .lst ds ∧ ev P src ρ s = some (dsrc, s1) ∧ items k dsrc = some xs ∧ xs.length ≤ SZ ∧ tgIn tg own = true ∧
    compF (fun x s => (tgO tg x (wipeO ρ own)).bind fun ρ' => bnd (ev P c ρ' s) fun y s => match truC c y with
        | some true => bnd (ev P e ρ' s) fun z s => some (some z, s)
        | some false => some (none, s)
        | none => none) xs s1 = some (ds, s') := by
  obtain ⟨dsrc, s1, e1, he⟩ := bnd_inv he
  obtain ⟨xs, e2, he⟩ := bind_inv he
  split at he
  · rename_i hz
    obtain ⟨q, e3, he⟩ := map_inv he
    cases he
    exact ⟨_, _, _, _, rfl, e1, e2, hz.1, hz.2, e3⟩
  · cases he
theorem okF_comp {k : Itk} {src : E} {tg : Tg} {own : List Nat} {c e : E} (hE : OkE C P src) (hA : OkA C P src) (hc : OkE C P c) (hcT : OkT C P c) (he : OkE C P e) : OkF C P (.comp k src tg own c e) := by
  intro _ ρ σ θ B Γ H s ds s' Q W R hev hq
  obtain ⟨ds', dsrc, s1, xs, e0, e1, e2, hz, htg, e3⟩ := comp_inv hev
  cases e0
  refine it_ok hE hA W R e1 e2 fun J θ1 B1 Γ1 H1 g1 wk Dl hDl => ?_
  generalize hstep : (fun x s => (tgO tg x (wipeO ρ own)).bind fun ρ' => bnd (ev P c ρ' s) fun y s => match truC c y with
        | some true => bnd (ev P e ρ' s) fun z s => some (some z, s)
        | some false => some (none, s)
        | none => none) = step at e3
  refine ⟨fun i m H' => m = xs.length - i ∧ i ≤ xs.length ∧ ∃ θ' B' Γ' acc di si rest, Gr C θ B Γ H s θ' B' Γ' H' si ∧ Same Γ1 Γ' ∧ (∀ (i : Nat) (a : Addr), θ1[i]? = some a → θ'[i]? = some a) ∧ H' Dl = some (.lst acc) ∧ Γ' Dl = none ∧ Dl ∉ θ' ∧ Reps C θ' Γ' acc di ∧ di.length ≤ i ∧
    compF step (xs.drop i) si = some (rest, s') ∧ ds = di ++ rest, ⟨xs.length, by simp, Nat.zero_le _, θ1, B1, Γ1, [], [], s1, ds, ?_⟩, ?_⟩
  · exact ⟨g1.poke (g1.free0 hDl) (g1.wd.gfree hDl) (g1.wd.free hDl), Same.refl _, fun _ _ z => z, upd_same, g1.wd.gfree hDl, g1.wd.free hDl, .nil, Nat.le_refl _, by simpa using e3, rfl⟩
  rintro i m H' ⟨rfl, hi, θ', B', Γ', acc, di, si, rest, g, hgg, hth, hD, hgD, htD, ra, hl, e4, e5⟩
  have hs1 : Same Γ1 H' := hgg.trans g.wd.gh
  by_cases hlt : i < xs.length
  · refine .inr ⟨wk.go i hlt H' hs1, ?_⟩
    have hx : xs.drop i = xs[i] :: xs.drop (i + 1) := List.drop_eq_getElem_cons hlt
    rw [hx] at e4
    unfold compF at e4
    split at e4
    · cases e4
    rename_i o s2 es
    split at e4
    · cases e4
    rename_i ds2 s3 er
    cases e4
    -- what a turn is to reach
    refine ⟨fun H2 => ∃ θ' B' Γ' acc, Gr C θ B Γ H s θ' B' Γ' H2 s2 ∧ Same Γ1 Γ' ∧ (∀ (i : Nat) (a : Addr), θ1[i]? = some a → θ'[i]? = some a) ∧ H2 Dl = some (.lst acc) ∧ Γ' Dl = none ∧ Dl ∉ θ' ∧ Reps C θ' Γ' acc (di ++ o.toList), ?_, ?_⟩
    · rintro H2 ⟨θ2, B2, Γ2, acc2, g2, h1, h2, h3, h4, h5, h6⟩
      refine ⟨xs.length - (i + 1), by omega, rfl, hlt, θ2, B2, Γ2, acc2, di ++ o.toList, s2, ds2, g2, h1, h2, h3, h4, h5, h6, ?_, er, ?_⟩
      · cases o <;> simp <;> omega
      · rw [e5, List.append_assoc]
    · intro x H2 y
      obtain ⟨x', ex, hy⟩ := wk.yld i H' x H2 hlt hs1 y
      have exx : x' = xs[i] := by rw [List.getElem?_eq_getElem hlt] at ex; exact (Option.some.inj ex).symm
      subst exx
      -- behind the yield: the world g2 with the value
      have hyld : ∃ Γ2, Gr C θ' B' Γ' H' si θ' B' Γ2 H2 si ∧ Rep C θ' Γ2 x xs[i] := by
        rcases hy with ⟨rfl, r⟩ | ⟨T, vs, ds', rfl, hT, rfl, e6, r⟩
        · exact ⟨Γ', Gr.refl g.wd, r.mono hgg hth⟩
        · rw [e6]
          exact ⟨_, Gr.new g.wd hT, .tup (sqT_of upd_same) ((r.mono hgg hth).mono (same_upd (g.wd.gfree hT)) fun _ _ z => z)⟩
      obtain ⟨Γ2, gy, rx⟩ := hyld
      have R2 : EnvR C θ' Γ2 (wipe σ own) (wipeO ρ own) := ((g.trans gy).env R).wipe
      rw [← hstep] at es
      obtain ⟨ρ', et, es⟩ := bind_inv es
      refine g_ok gy.wd.gh et rx R2 fun σ2 R3 hw => ⟨by rw [hw own htg, wipe_wipe], ?_⟩
      obtain ⟨yv, s4, ec, es⟩ := bnd_inv es
      -- the test
      have htest : ∀ (b : Bool), truC c yv = some b → ∀ (Q2 : Bool → Hp → Prop), (∀ θ3 B3 Γ3 H3, Gr C θ' B' Γ2 H2 si θ3 B3 Γ3 H3 s4 → Q2 b H3) → rdC c (rd C P c).tt σ2 H2 Q2 := by
        intro b hb Q2 hQ2
        by_cases hn : c = .nop
        · subst hn
          cases hb
          cases ec
          exact hQ2 _ _ _ _ (Gr.refl gy.wd)
        · have h1 : rdC c (rd C P c).tt = (rd C P c).tt := by
            cases c <;> first | rfl | exact absurd rfl hn
          have h2 : tru yv = some b := by
            cases c <;> first | exact hb | exact absurd rfl hn
          rw [h1]
          exact hcT _ _ _ _ _ _ _ _ _ _ _ gy.wd R3 ec h2 hQ2
      split at es
      · rename_i hb
        refine htest true hb _ fun θ3 B3 Γ3 H3 g3 => ?_
        rw [if_pos rfl]
        obtain ⟨z, s5, ee, es⟩ := bnd_inv es
        cases es
        refine he _ _ _ _ _ _ _ _ _ _ g3.wd (g3.env R3) ee fun v θ4 B4 Γ4 H4 g4 r4 => ?_
        have gA : Gr C θ' B' Γ' H' si θ4 B4 Γ4 H4 s2 := (gy.trans g3).trans g4
        have hD4 : H4 Dl = some (.lst acc) := gA.kp _ _ hD htD
        have hG4 : Γ4 Dl = none := gA.nw _ hgD (by rw [hD]; exact fun z => nomatch z)
        have hT4 : Dl ∉ θ4 := fun z => by
          rcases gA.tn _ z with z | z
          · exact htD z
          · rw [hD] at z; cases z
        refine ⟨acc, hD4, ?_, θ4, B4, Γ4, acc ++ [v], (g.trans gA).poke (g1.free0 hDl) hG4 hT4, hgg.trans gA.gg, fun j a z => gA.th j a (hth j a z), upd_same, hG4, hT4, (gA.reps ra).append (.cons r4 .nil)⟩
        have := ra.length
        rw [← SZ_eq]
        omega
      · rename_i hb
        cases es
        refine htest false hb _ fun θ3 B3 Γ3 H3 g3 => ?_
        rw [if_neg Bool.false_ne_true]
        have gA : Gr C θ' B' Γ' H' si θ3 B3 Γ3 H3 s2 := gy.trans g3
        have hD4 : H3 Dl = some (.lst acc) := gA.kp _ _ hD htD
        have hG4 : Γ3 Dl = none := gA.nw _ hgD (by rw [hD]; exact fun z => nomatch z)
        have hT4 : Dl ∉ θ3 := fun z => by
          rcases gA.tn _ z with z | z
          · exact htD z
          · rw [hD] at z; cases z
        exact ⟨θ3, B3, Γ3, acc, g.trans gA, hgg.trans gA.gg, fun j a z => gA.th j a (hth j a z), hD4, hG4, hT4, by simpa using gA.reps ra⟩
      · cases es
  · have hi' : i = xs.length := by omega
    subst hi'
    refine .inl ⟨wk.stop H' hs1, ?_⟩
    rw [List.drop_length] at e4
    cases e4
    rw [List.append_nil] at e5
    subst e5
    exact hq Dl acc θ' B' Γ' H' g (g1.free0 hDl) hD hgD htD ra
theorem ok_comp {k : Itk} {src : E} {tg : Tg} {own : List Nat} {c e : E} (hE : OkE C P src) (hA : OkA C P src) (hc : OkE C P c) (hcT : OkT C P c) (he : OkE C P e) : OkE C P (.comp k src tg own c e) := fun ρ σ θ B Γ H s d s' Q W R hev hq => by
  obtain ⟨ds', dsrc, s1, xs, e0, e1, e2, hz, htg, e3⟩ := comp_inv hev
  subst e0
  exact okF_comp hE hA hc hcT he rfl _ _ _ _ _ _ _ _ _ _ W R hev hq.f
/-- the readings hold where the meaning is defined -/
theorem sound4 (T : TabOk C P) (F : FrOk P) (hnk : P.nk = C.nk) : ∀ e : E, OkE C P e ∧ OkT C P e ∧ OkA C P e ∧ OkL C P e := by
  intro e
  induction e with
  | nop => exact ⟨ok_nop, okT_mk ok_nop rfl, okA_none rfl, okL_none rfl⟩
  | nil => exact ⟨ok_nil, okT_mk ok_nil rfl, okA_nil, okL_nil⟩
  | cons a r ha hr => exact ⟨ok_cons ha.1 hr.2.2.1, okT_mk (ok_cons ha.1 hr.2.2.1) rfl, okA_cons ha.1 hr.2.2.1, okL_cons ha.1 hr.2.2.2⟩
  | var i => exact ⟨ok_var, okT_mk ok_var rfl, okA_none rfl, okL_none rfl⟩
  | int i => exact ⟨ok_int, okT_mk ok_int rfl, okA_none rfl, okL_none rfl⟩
  | str i => exact ⟨ok_str, okT_mk ok_str rfl, okA_none rfl, okL_none rfl⟩
  | bl i => exact ⟨ok_bl, okT_mk ok_bl rfl, okA_none rfl, okL_none rfl⟩
  | non => exact ⟨ok_non, okT_mk ok_non rfl, okA_none rfl, okL_none rfl⟩
  | bin o a b ha hb => exact ⟨ok_bin ha.1 hb.1, okT_mk (ok_bin ha.1 hb.1) rfl, okA_none rfl, okL_none rfl⟩
  | cmp o a b ha hb => exact ⟨ok_cmp ha.1 hb.1, okT_cmp ha.1 hb.1, okA_none rfl, okL_none rfl⟩
  | and_ a b ha hb => exact ⟨ok_and ha.1 hb.1, okT_and ha.2.1 hb.2.1, okA_none rfl, okL_none rfl⟩
  | or_ a b ha hb => exact ⟨ok_or ha.1 hb.1, okT_or ha.2.1 hb.2.1, okA_none rfl, okL_none rfl⟩
  | not_ a ha => exact ⟨ok_not ha.1, okT_not ha.2.1, okA_none rfl, okL_none rfl⟩
  | ite c a b hc ha hb => exact ⟨ok_ite hc.2.1 ha.1 hb.1, okT_mk (ok_ite hc.2.1 ha.1 hb.1) rfl, okA_none rfl, okL_none rfl⟩
  | tup a ha => exact ⟨ok_tup ha.2.2.1, okT_mk (ok_tup ha.2.2.1) rfl, okA_none rfl, okL_none rfl⟩
  | lst a ha => exact ⟨ok_lst ha.2.2.1, okT_mk (ok_lst ha.2.2.1) rfl, okA_none rfl, okL_none rfl⟩
  | idx a b ha hb => exact ⟨ok_idx ha.1 hb.1, okT_mk (ok_idx ha.1 hb.1) rfl, okA_none rfl, okL_none rfl⟩
  | slc k a lo hi ha hl hh => exact ⟨ok_slc ha.1 hl.1 hh.1, okT_mk (ok_slc ha.1 hl.1 hh.1) rfl, okA_none rfl, okL_none rfl⟩
  | bi f a ha => exact ⟨ok_bi ha.1, okT_mk (ok_bi ha.1) rfl, okA_none rfl, okL_none rfl⟩
  | me m o a ho ha => exact ⟨ok_me ho.1 ha.2.2.1, okT_mk (ok_me ho.1 ha.2.2.1) rfl, okA_none rfl, okL_none rfl⟩
  | kget t k hk => exact ⟨ok_kget T hk.1, okT_mk (ok_kget T hk.1) rfl, okA_none rfl, okL_none rfl⟩
  | kin t neg k hk => exact ⟨ok_kin T hk.1, okT_kin T hk.1, okA_none rfl, okL_none rfl⟩
  | dget o k ho => exact ⟨ok_dget ho.1, okT_mk (ok_dget ho.1) rfl, okA_none rfl, okL_none rfl⟩
  | call f a ha => exact ⟨ok_call F ha.2.2.1, okT_mk (ok_call F ha.2.2.1) rfl, okA_none rfl, okL_none rfl⟩
  | cel ks a ha => exact ⟨ok_cel hnk ha.2.2.2, okT_mk (ok_cel hnk ha.2.2.2) rfl, okA_none rfl, okL_none rfl⟩
  | comp k src tg own c e hs hc he => exact ⟨ok_comp hs.1 hs.2.2.1 hc.1 hc.2.1 he.1, okT_mk (ok_comp hs.1 hs.2.2.1 hc.1 hc.2.1 he.1) rfl, okA_none rfl, okL_none rfl⟩
/-- what the meaning leans on -/
structure Base (C : Cn) (P : Par) : Prop where
  T : TabOk C P
  F : FrOk P
  nk : P.nk = C.nk
theorem sound (T : Base C P) (e : E) : OkE C P e ∧ OkT C P e ∧ OkA C P e := let q := sound4 T.T T.F T.nk e; ⟨q.1, q.2.1, q.2.2.1⟩
theorem soundF (T : Base C P) : ∀ e : E, OkF C P e := by
  intro e
  cases e with
  | bin o a b => exact okF_bin (sound T a).1 (sound T b).1
  | lst a => exact okF_lst (sound T a).2.2
  | slc k a lo hi => exact okF_slc (sound T a).1 (sound T lo).1 (sound T hi).1
  | me m o a => exact okF_me (sound T o).1 (sound T a).2.2
  | call f a => exact okF_call (sound T a).2.2
  | comp k src tg own c e => exact okF_comp (sound T src).1 (sound T src).2.2 (sound T c).1 (sound T c).2.1 (sound T e).1
  | _ => exact fun h => by cases h
end
end DL
set_option Elab.async false
set_option linter.all false
set_option maxRecDepth 100000
set_option maxHeartbeats 1000000
/-! Statements: the lists that a def owns; soundS; a def's promise: run_ok. -/
namespace DL
open PySem L2
open Classical in
/-- the addresses of the lists that stand in owning slots -/
def ownd (ρ : Env) (σ : L2.St) (a : Addr) : Prop := ∃ (i : Nat) (ds : List D), ρ[i]? = some (.own ds) ∧ σ[i]? = some (some (.ref a))
open Classical in
noncomputable def view (G H : Hp) (ρ : Env) (σ : L2.St) : Hp := fun a => if ownd ρ σ a then H a else G a
open Classical in
noncomputable def less (Γ : Hp) (ρ : Env) (σ : L2.St) : Hp := fun a => if ownd ρ σ a then none else Γ a
theorem view_own {G H : Hp} {ρ : Env} {σ : L2.St} {a : Addr} (h : ownd ρ σ a) : view G H ρ σ a = H a := if_pos h
theorem view_not {G H : Hp} {ρ : Env} {σ : L2.St} {a : Addr} (h : ¬ ownd ρ σ a) : view G H ρ σ a = G a := if_neg h
theorem less_own {Γ : Hp} {ρ : Env} {σ : L2.St} {a : Addr} (h : ownd ρ σ a) : less Γ ρ σ a = none := if_pos h
theorem less_not {Γ : Hp} {ρ : Env} {σ : L2.St} {a : Addr} (h : ¬ ownd ρ σ a) : less Γ ρ σ a = Γ a := if_neg h
/-- where a def began -/
structure Sta where
  θ : List Addr
  B : Hp
  Γ : Hp
  H : Hp
  s : Ss
structure Ws (C : Cn) (S : Sta) (θa : List Addr) (Γa : Hp) (θ : List Addr) (B G H : Hp) (s : Ss) (ρ : Env) (σ : L2.St) : Prop where
  gr : Gr C S.θ S.B S.Γ S.H S.s θ B G H s
  len : σ.length = ρ.length
  frz : ∀ (i : Nat) (d : D), ρ[i]? = some (.frz d) → ∃ v, σ[i]? = some (some v) ∧ Rep C θ G v d
  own : ∀ (i : Nat) (ds : List D), ρ[i]? = some (.own ds) → ∃ p vs, σ[i]? = some (some (.ref p)) ∧ H p = some (.lst vs) ∧ G p = none ∧ p ∉ θ ∧ S.H p = none ∧ Reps C θ G vs ds
  dis : ∀ (i j : Nat) (ds es : List D) (p : Addr), ρ[i]? = some (.own ds) → ρ[j]? = some (.own es) → σ[i]? = some (some (.ref p)) → σ[j]? = some (some (.ref p)) → i = j
  an : Same Γa G
  ath : ∀ (i : Nat) (a : Addr), θa[i]? = some a → θ[i]? = some a
section
variable {C : Cn} {P : Par} {S : Sta} {θa θ θ' : List Addr} {Γa B G H B' Γ' G' H' : Hp} {s s' : Ss} {ρ : Env} {σ : L2.St}
theorem Ws.ownH (w : Ws C S θa Γa θ B G H s ρ σ) {a : Addr} (h : ownd ρ σ a) : ∃ vs, H a = some (.lst vs) ∧ G a = none ∧ a ∉ θ ∧ S.H a = none := by
  obtain ⟨i, ds, e1, e2⟩ := h
  obtain ⟨p, vs, e3, h1, h2, h3, h4, _⟩ := w.own i ds e1
  rw [e2] at e3
  cases e3
  exact ⟨vs, h1, h2, h3, h4⟩
theorem Ws.gview (w : Ws C S θa Γa θ B G H s ρ σ) : Same G (view G H ρ σ) := fun a o e => by
  by_cases h : ownd ρ σ a
  · obtain ⟨vs, h1, h2, _⟩ := w.ownH h
    rw [h2] at e; cases e
  · rw [view_not h]; exact e
theorem Ws.wd (w : Ws C S θa Γa θ B G H s ρ σ) : Wd C θ B (view G H ρ σ) H s where
  gh := fun a o e => by
    by_cases h : ownd ρ σ a
    · rw [view_own h] at e; exact e
    · rw [view_not h] at e; exact w.gr.wd.gh a o e
  bg := w.gr.wd.bg.trans w.gview
  len := w.gr.wd.len
  nd := w.gr.wd.nd
  ap := fun a m => by
    by_cases h : ownd ρ σ a
    · obtain ⟨vs, h1, h2, h3, _⟩ := w.ownH h
      exact absurd m h3
    · rw [view_not h]; exact w.gr.wd.ap a m
  cl := fun i a c e1 e2 => by
    obtain ⟨l, kvs, e, r⟩ := w.gr.wd.cl i a c e1 e2
    exact ⟨l, kvs, e, r.mono (Same.refl _) w.gview fun _ _ z => z⟩
theorem vis_get {i : Nat} {d : D} (h : (vis ρ)[i]? = some (some d)) : ρ[i]? = some (.frz d) ∨ ∃ ds, ρ[i]? = some (.own ds) ∧ d = .lst ds := by
  unfold vis at h
  rw [List.getElem?_map] at h
  cases e : ρ[i]? with
  | none => rw [e] at h; cases h
  | some x =>
    rw [e] at h
    cases x with
    | nil => cases h
    | frz d' => cases h; exact .inl rfl
    | own ds => cases h; exact .inr ⟨ds, rfl, rfl⟩
theorem hid_get {i : Nat} {d : D} (h : (hid ρ)[i]? = some (some d)) : ρ[i]? = some (.frz d) := by
  unfold hid at h
  rw [List.getElem?_map] at h
  cases e : ρ[i]? with
  | none => rw [e] at h; cases h
  | some x =>
    rw [e] at h
    cases x with
    | nil => cases h
    | frz d' => cases h; rfl
    | own ds => cases h
theorem Ws.env (w : Ws C S θa Γa θ B G H s ρ σ) : EnvR C θ (view G H ρ σ) σ (vis ρ) := ⟨by rw [w.len]; simp [vis], fun i d h => by
  rcases vis_get h with h' | ⟨ds, h', rfl⟩
  · obtain ⟨v, e, r⟩ := w.frz i d h'
    exact ⟨v, e, r.mono w.gview fun _ _ z => z⟩
  · obtain ⟨p, vs, e, h1, _, _, _, r⟩ := w.own i ds h'
    exact ⟨_, e, .lst (by rw [view_own ⟨i, ds, h', e⟩]; exact h1) (r.mono w.gview fun _ _ z => z)⟩⟩
theorem Ws.envH (w : Ws C S θa Γa θ B G H s ρ σ) : EnvR C θ G σ (hid ρ) := ⟨by rw [w.len]; simp [hid], fun i d h => w.frz i d (hid_get h)⟩
theorem noOwn_ok (h : noOwn ρ = true) (a : Addr) : ¬ ownd ρ σ a := fun ⟨i, ds, e1, _⟩ => by
  have := List.all_eq_true.mp h _ (List.mem_of_getElem? e1)
  simp [Slot.isOwn] at this
/-- what is left of a growth of the view when the owned lists are taken out -/
theorem Ws.lessT (w : Ws C S θa Γa θ B G H s ρ σ) (g : Gr C θ B (view G H ρ σ) H s θ' B' Γ' H' s') (a : Addr) (xs : List V) (h : SqT C.K Γ' a xs) : SqT C.K (less Γ' ρ σ) a xs := by
  by_cases ho : ownd ρ σ a
  · obtain ⟨vs, h1, _⟩ := w.ownH ho
    have : Γ' a = some (.lst vs) := g.gg a _ (by rw [view_own ho]; exact h1)
    rcases h with (h | ⟨o, h⟩) | h
    · rw [this] at h; cases h
    · rw [this] at h; cases h
    · exact .inr h
  · rcases h with (h | ⟨o, h⟩) | h
    · exact .inl (.inl (by rw [less_not ho]; exact h))
    · exact .inl (.inr ⟨o, by rw [less_not ho]; exact h⟩)
    · exact .inr h
theorem Ws.lessG (w : Ws C S θa Γa θ B G H s ρ σ) (g : Gr C θ B (view G H ρ σ) H s θ' B' Γ' H' s') : Same G (less Γ' ρ σ) := fun a o e => by
  by_cases ho : ownd ρ σ a
  · obtain ⟨vs, _, h2, _⟩ := w.ownH ho
    rw [h2] at e; cases e
  · rw [less_not ho]; exact g.gg a o (by rw [view_not ho]; exact e)
theorem Ws.stepV (w : Ws C S θa Γa θ B G H s ρ σ) (g : Gr C θ B (view G H ρ σ) H s θ' B' Γ' H' s') (hc : okc ρ s s' = true) : Ws C S θa Γa θ' B' (less Γ' ρ σ) H' s' ρ σ := by
  have hless : Same (less Γ' ρ σ) Γ' := fun a o e => by
    by_cases ho : ownd ρ σ a
    · rw [less_own ho] at e; cases e
    · rw [less_not ho] at e; exact e
  have hB : Same B' (less Γ' ρ σ) := fun a o e => by
    by_cases ho : ownd ρ σ a
    · simp only [okc, Bool.or_eq_true, beq_iff_eq] at hc
      rcases hc with hc | hc
      · obtain ⟨_, rfl⟩ := g.sm hc
        obtain ⟨vs, _, h2, _⟩ := w.ownH ho
        have := w.gr.wd.bg a o e
        rw [h2] at this; cases this
      · exact absurd ho (noOwn_ok hc a)
    · rw [less_not ho]; exact g.wd.bg a o e
  have gr' : Gr C θ B G H s θ' B' (less Γ' ρ σ) H' s' :=
    ⟨⟨hless.trans g.wd.gh, hB, g.wd.len, g.wd.nd, fun a m => by
        by_cases ho : ownd ρ σ a
        · exact less_own ho
        · rw [less_not ho]; exact g.wd.ap a m, fun i a c e1 e2 => by
        obtain ⟨l, kvs, e, r⟩ := g.wd.cl i a c e1 e2
        exact ⟨l, kvs, e, Paired.mapP r fun p q z => ⟨z.1, z.2.1, z.2.2.elim .inl fun z => .inr ⟨z.1, z.2.ofPur (w.lessT g) z.1⟩⟩⟩⟩,
      w.lessG g, g.kp, fun a e n => by
        by_cases ho : ownd ρ σ a
        · exact less_own ho
        · rw [less_not ho]; exact g.nw a (by rw [view_not ho]; exact e) n, g.th, g.tn, g.sm, g.le⟩
  refine ⟨w.gr.trans gr', w.len, fun i d h => ?_, fun i ds h => ?_, w.dis, w.an.trans (w.lessG g), fun i a e => g.th i a (w.ath i a e)⟩
  · obtain ⟨v, e, r⟩ := w.frz i d h
    exact ⟨v, e, r.mono (w.lessG g) g.th⟩
  · obtain ⟨p, vs, e, h1, h2, h3, h4, r⟩ := w.own i ds h
    refine ⟨p, vs, e, g.kp _ _ h1 h3, less_own ⟨i, ds, h, e⟩, fun z => ?_, h4, r.mono (w.lessG g) g.th⟩
    rcases g.tn _ z with z | z
    · exact h3 z
    · rw [h1] at z; cases z
theorem Ws.stepG (w : Ws C S θa Γa θ B G H s ρ σ) (g : Gr C θ B G H s θ' B' Γ' H' s') : Ws C S θa Γa θ' B' Γ' H' s' ρ σ := by
  refine ⟨w.gr.trans g, w.len, fun i d h => ?_, fun i ds h => ?_, w.dis, w.an.trans g.gg, fun i a e => g.th i a (w.ath i a e)⟩
  · obtain ⟨v, e, r⟩ := w.frz i d h
    exact ⟨v, e, g.rep r⟩
  · obtain ⟨p, vs, e, h1, h2, h3, h4, r⟩ := w.own i ds h
    refine ⟨p, vs, e, g.kp _ _ h1 h3, g.nw _ h2 (by rw [h1]; exact fun z => nomatch z), fun z => ?_, h4, g.reps r⟩
    rcases g.tn _ z with z | z
    · exact h3 z
    · rw [h1] at z; cases z
theorem Ws.weak {θb : List Addr} {Γb : Hp} (w : Ws C S θa Γa θ B G H s ρ σ) (h : Same Γb Γa) (t : ∀ (i : Nat) (a : Addr), θb[i]? = some a → θa[i]? = some a) : Ws C S θb Γb θ B G H s ρ σ :=
  ⟨w.gr, w.len, w.frz, w.own, w.dis, h.trans w.an, fun i a e => w.ath i a (t i a e)⟩
theorem Ws.anchor (w : Ws C S θa Γa θ B G H s ρ σ) : Ws C S θ G θ B G H s ρ σ := ⟨w.gr, w.len, w.frz, w.own, w.dis, Same.refl _, fun _ _ e => e⟩
/-- what a kept value stands for -/
def SlotR (C : Cn) (S : Sta) (θ : List Addr) (G H : Hp) (ρ : Env) (σ : L2.St) (x : Slot) (v : V) : Prop := match x with
  | .nil => True
  | .frz d => Rep C θ G v d
  | .own ds => ∃ p vs, v = .ref p ∧ H p = some (.lst vs) ∧ G p = none ∧ p ∉ θ ∧ S.H p = none ∧ Reps C θ G vs ds ∧ ∀ q, ownd ρ σ q → q ≠ p
theorem keep_ok (T : Base C P) {m : Md} {e : E} {x : Slot} {Q : VK} (w : Ws C S θa Γa θ B G H s ρ σ) (h : keep P m e ρ s = some (x, s'))
    (hq : ∀ v θ' B' G' H', Ws C S θa Γa θ' B' G' H' s' ρ σ → SlotR C S θ' G' H' ρ σ x v → Q v H') : (rd C P e).te σ H Q := by
  unfold keep at h
  have nown : ∀ {p q : Addr}, H p = none → ownd ρ σ q → q ≠ p := fun {p q} hp ho z => by
    obtain ⟨vs, h1, _⟩ := w.ownH ho
    rw [z, hp] at h1; cases h1
  split at h
  · obtain ⟨d, s1, e1, h⟩ := bnd_inv h
    split at h
    · rename_i hc
      cases h
      have hc := Bool.and_eq_true_iff.mp hc
      exact (sound T e).1 _ _ _ _ _ _ _ _ _ _ w.wd w.env e1 fun v θ1 B1 Γ1 H1 g r => hq v _ _ _ _ (w.stepV g hc.2) (r.ofPur (w.lessT g) hc.1)
    · cases h
  · obtain ⟨d, s1, e1, h⟩ := bnd_inv h
    split at h
    · cases h
      exact (sound T e).1 _ _ _ _ _ _ _ _ _ _ w.gr.wd w.envH e1 fun v θ1 B1 Γ1 H1 g r => hq v _ _ _ _ (w.stepG g) r
    · cases h
  · obtain ⟨d, s1, e1, h⟩ := bnd_inv h
    split at h
    · split at h
      · rename_i hc
        cases h
        have hc := Bool.and_eq_true_iff.mp hc
        have hc2 := Bool.and_eq_true_iff.mp hc.2
        refine soundF T e hc2.1 _ _ _ _ _ _ _ _ _ _ w.wd w.env e1 fun p vs θ1 B1 Γ1 H1 g h0 h1 h2 h3 r => hq _ _ _ _ _ (w.stepV g hc2.2) ⟨p, vs, rfl, h1, ?_, h3, w.gr.free0 h0, Reps.ofPur (w.lessT g) hc.1 r, fun q ho => nown h0 ho⟩
        by_cases ho : ownd ρ σ p
        · exact less_own ho
        · rw [less_not ho]; exact h2
      · cases h
    · cases h
  · obtain ⟨d, s1, e1, h⟩ := bnd_inv h
    split at h
    · split at h
      · rename_i hc
        cases h
        have hc := Bool.and_eq_true_iff.mp hc
        exact soundF T e hc.1 _ _ _ _ _ _ _ _ _ _ w.gr.wd w.envH e1 fun p vs θ1 B1 Γ1 H1 g h0 h1 h2 h3 r => hq _ _ _ _ _ (w.stepG g) ⟨p, vs, rfl, h1, h2, h3, w.gr.free0 h0, r, fun q ho => nown h0 ho⟩
      · cases h
    · cases h
theorem Ws.set (w : Ws C S θa Γa θ B G H s ρ σ) {i : Nat} {x : Slot} {v : V} (hi : i < ρ.length) (r : SlotR C S θ G H ρ σ x v) : Ws C S θa Γa θ B G H s (ρ.set i x) (σ.set i (some v)) := by
  have hiσ : i < σ.length := by rw [w.len]; exact hi
  have at_ : ∀ {j : Nat} {y : Slot}, (ρ.set i x)[j]? = some y → (j = i ∧ y = x ∧ (σ.set i (some v))[j]? = some (some v)) ∨ (j ≠ i ∧ ρ[j]? = some y ∧ (σ.set i (some v))[j]? = σ[j]?) := fun {j y} h => by
    by_cases e : i = j
    · subst e
      rw [List.getElem?_set_self hi] at h
      cases h
      exact .inl ⟨rfl, rfl, by rw [List.getElem?_set_self hiσ]⟩
    · rw [List.getElem?_set_ne e] at h
      exact .inr ⟨fun z => e z.symm, h, by rw [List.getElem?_set_ne e]⟩
  refine ⟨w.gr, by rw [List.length_set, List.length_set]; exact w.len, fun j d h => ?_, fun j ds h => ?_, fun j k ds es p h1 h2 h3 h4 => ?_, w.an, w.ath⟩
  · rcases at_ h with ⟨rfl, rfl, e⟩ | ⟨_, h, e⟩
    · exact ⟨v, e, r⟩
    · obtain ⟨v', e1, r'⟩ := w.frz j d h
      exact ⟨v', by rw [e]; exact e1, r'⟩
  · rcases at_ h with ⟨rfl, rfl, e⟩ | ⟨_, h, e⟩
    · obtain ⟨p, vs, rfl, h1, h2, h3, h4, h5, _⟩ := r
      exact ⟨p, vs, e, h1, h2, h3, h4, h5⟩
    · obtain ⟨p, vs, e1, q⟩ := w.own j ds h
      exact ⟨p, vs, by rw [e]; exact e1, q⟩
  · rcases at_ h1 with ⟨a1, b1, e1⟩ | ⟨n1, g1, e1⟩
    · rcases at_ h2 with ⟨a2, _, e2⟩ | ⟨n2, g2, e2⟩
      · rw [a1, a2]
      · subst b1
        obtain ⟨p', vs, rfl, _, _, _, _, _, h7⟩ := r
        rw [e1] at h3
        cases h3
        rw [e2] at h4
        exact absurd rfl (h7 _ ⟨k, es, g2, h4⟩)
    · rcases at_ h2 with ⟨a2, b2, e2⟩ | ⟨n2, g2, e2⟩
      · subst b2
        obtain ⟨p', vs, rfl, _, _, _, _, _, h7⟩ := r
        rw [e2] at h4
        cases h4
        rw [e1] at h3
        exact absurd rfl (h7 _ ⟨j, ds, g1, h3⟩)
      · rw [e1] at h3
        rw [e2] at h4
        exact w.dis j k ds es p g1 g2 h3 h4
/-- an owned list is changed -/
theorem Ws.grow (w : Ws C S θa Γa θ B G H s ρ σ) {i : Nat} {ds es : List D} {p : Addr} {vs : List V} (hi : ρ[i]? = some (.own ds)) (hσ : σ[i]? = some (some (.ref p))) (r : Reps C θ G vs es) : Ws C S θa Γa θ B G (upd H p (.lst vs)) s (ρ.set i (.own es)) σ := by
  obtain ⟨p', ws, e1, h1, h2, h3, h4, h5⟩ := w.own i ds hi
  rw [hσ] at e1
  cases e1
  have hil : i < ρ.length := (List.getElem?_eq_some_iff.mp hi).1
  have at_ : ∀ {j : Nat} {y : Slot}, (ρ.set i (.own es))[j]? = some y → (j = i ∧ y = .own es) ∨ (j ≠ i ∧ ρ[j]? = some y) := fun {j y} h => by
    by_cases e : i = j
    · subst e
      rw [List.getElem?_set_self hil] at h
      cases h
      exact .inl ⟨rfl, rfl⟩
    · rw [List.getElem?_set_ne e] at h
      exact .inr ⟨fun z => e z.symm, h⟩
  refine ⟨w.gr.poke h4 h2 h3, by rw [List.length_set]; exact w.len, fun j d h => ?_, fun j ds' h => ?_, fun j k ds' es' q g1 g2 g3 g4 => ?_, w.an, w.ath⟩
  · rcases at_ h with ⟨_, e⟩ | ⟨_, h⟩
    · cases e
    · exact w.frz j d h
  · rcases at_ h with ⟨rfl, e⟩ | ⟨n, h⟩
    · cases e
      exact ⟨p, vs, hσ, upd_same, h2, h3, h4, r⟩
    · obtain ⟨q, us, e1, k1, k2⟩ := w.own j ds' h
      have : q ≠ p := fun z => by
        subst z
        exact n (w.dis j i _ _ _ h hi e1 hσ)
      exact ⟨q, us, e1, by rw [upd_ne this]; exact k1, k2⟩
  · have o1 : ∃ ds, ρ[j]? = some (.own ds) := by
      rcases at_ g1 with ⟨rfl, _⟩ | ⟨_, h⟩
      · exact ⟨_, hi⟩
      · exact ⟨_, h⟩
    have o2 : ∃ ds, ρ[k]? = some (.own ds) := by
      rcases at_ g2 with ⟨rfl, _⟩ | ⟨_, h⟩
      · exact ⟨_, hi⟩
      · exact ⟨_, h⟩
    obtain ⟨_, o1⟩ := o1
    obtain ⟨_, o2⟩ := o2
    exact w.dis j k _ _ q o1 o2 g3 g4
/-! ### cells -/
theorem crel_has {θ : List Addr} {B Γ : Hp} {k : Nat} : ∀ {kvs : List (Key × V)} {c : Cell}, CRel C θ B Γ kvs c → chas c k = true → k < C.nk ∧ (kvs.any fun kv => decide (kv.1 = .inr (C.key k))) = true
  | _, _, .nil, h => by simp [chas] at h
  | p :: kvs, q :: c, .cons r rr, h => by
    obtain ⟨h1, h2, h3⟩ := r
    by_cases e : q.1 = k
    · subst e
      exact ⟨h2, by simp [h1]⟩
    · have h' : chas c k = true := by simpa [chas, e] using h
      obtain ⟨a, b⟩ := crel_has rr h'
      refine ⟨a, ?_⟩
      simp only [List.any_cons, Bool.or_eq_true]
      exact .inr b
theorem crel_put {θ : List Addr} {B Γ : Hp} {k : Nat} {v : V} {d : D} (hk : k < C.nk) (hr : Rep C θ Γ v d) (hp : pur d = true) : ∀ {kvs : List (Key × V)} {c : Cell}, CRel C θ B Γ kvs c → CRel C θ B Γ (kvs.map fun kv => if kv.1 = .inr (C.key k) then (kv.1, v) else kv) (cput c k d)
  | _, _, .nil => .nil
  | p :: kvs, q :: c, .cons r rr => by
    obtain ⟨h1, h2, h3⟩ := r
    refine .cons ?_ (crel_put hk hr hp rr)
    by_cases e : q.1 = k
    · have : p.1 = .inr (C.key k) := by rw [h1, e]
      simp only [if_pos e, if_pos this]
      exact ⟨h1, h2, .inr ⟨hp, hr⟩⟩
    · have : ¬ p.1 = .inr (C.key k) := fun z => by
        rw [h1] at z
        injection z with z
        exact e (C.kinj _ _ h2 hk z)
      simp only [if_neg e, if_neg this]
      exact ⟨h1, h2, h3⟩
theorem Ws.cell (w : Ws C S θa Γa θ B G H s ρ σ) {c : Nat} {a : Addr} {cl : Cell} {k : Nat} {v : V} {d : D} (ha : θ[c]? = some a) (hc : s[c]? = some cl) (hk : chas cl k = true) (hr : Rep C θ G v d) (hp : pur d = true) :
    ∃ kvs, H a = some (.dK kvs) ∧ kvs.length < sizeLine ∧ Ws C S θa Γa θ B G (upd H a (.dK (putK kvs (.inr (C.key k)) v))) (s.set c (cput cl k d)) ρ σ := by
  obtain ⟨l, kvs, e, r⟩ := w.gr.wd.cl c a cl ha hc
  have hlen : kvs.length = cl.length := by
    have : ∀ {kvs : List (Key × V)} {c : Cell}, CRel C θ B G kvs c → kvs.length = c.length := fun h => Paired.length h
    exact this r
  obtain ⟨h1, h2⟩ := crel_has r hk
  have ep : putK kvs (.inr (C.key k)) v = kvs.map fun kv => if kv.1 = .inr (C.key k) then (kv.1, v) else kv := by
    unfold putK
    rw [if_pos h2]
  have ham : a ∈ θ := List.mem_of_getElem? ha
  have hGa : G a = none := w.gr.wd.ap a ham
  have hcl : c < s.length := (List.getElem?_eq_some_iff.mp hc).1
  refine ⟨kvs, e, small1000 (by omega), ?_⟩
  have wd' : Wd C θ B G (upd H a (.dK (putK kvs (.inr (C.key k)) v))) (s.set c (cput cl k d)) := by
    refine ⟨fun b o eb => ?_, w.gr.wd.bg, by rw [List.length_set]; exact w.gr.wd.len, w.gr.wd.nd, w.gr.wd.ap, fun i b c' e1 e2 => ?_⟩
    · have : b ≠ a := fun z => by rw [z, hGa] at eb; cases eb
      rw [upd_ne this]; exact w.gr.wd.gh b o eb
    · by_cases hi : c = i
      · subst hi
        rw [ha] at e1
        cases e1
        rw [List.getElem?_set_self hcl] at e2
        cases e2
        refine ⟨by unfold cput; rw [List.length_map]; exact l, _, upd_same, ?_⟩
        rw [ep]
        exact crel_put h1 hr hp r
      · rw [List.getElem?_set_ne hi] at e2
        obtain ⟨l', kvs', e', r'⟩ := w.gr.wd.cl i b c' e1 e2
        have : b ≠ a := fun z => by
          subst z
          obtain ⟨hi1, e3⟩ := List.getElem?_eq_some_iff.mp ha
          obtain ⟨hi2, e4⟩ := List.getElem?_eq_some_iff.mp e1
          exact hi ((List.getElem_inj w.gr.wd.nd).mp (e3.trans e4.symm))
        exact ⟨l', kvs', by rw [upd_ne this]; exact e', r'⟩
  refine ⟨⟨wd', w.gr.gg, fun b o eb hb => ?_, w.gr.nw, w.gr.th, w.gr.tn, fun z => w.gr.sm (by rw [List.length_set] at z; exact z), by rw [List.length_set]; exact w.gr.le⟩, w.len, w.frz, fun i ds h => ?_, w.dis, w.an, w.ath⟩
  · have : b ≠ a := fun z => by
      subst z
      rcases w.gr.tn _ ham with z | z
      · exact hb z
      · rw [eb] at z; cases z
    rw [upd_ne this]; exact w.gr.kp b o eb hb
  · obtain ⟨p, vs, e1, k1, k2, k3, k4⟩ := w.own i ds h
    have : p ≠ a := fun z => k3 (by rw [z]; exact ham)
    exact ⟨p, vs, e1, by rw [upd_ne this]; exact k1, k2, k3, k4⟩
end
end DL
set_option Elab.async false
set_option linter.all false
set_option maxRecDepth 100000
set_option maxHeartbeats 1000000
/-! Statements: soundS; a def's promise: run_ok. -/
namespace DL
open PySem L2
/-- what is wanted behind a statement's end -/
def Fin (C : Cn) (S : Sta) (θa : List Addr) (Γa : Hp) (Wx : VK) (out : Out) (D : Ends) : Prop := match out with
  | .nx ρ s => ∀ θ B G H σ, Ws C S θa Γa θ B G H s ρ σ → D.nx σ H
  | .bk ρ s => ∀ θ B G H σ, Ws C S θa Γa θ B G H s ρ σ → D.bk σ H
  | .ct ρ s => ∀ θ B G H σ, Ws C S θa Γa θ B G H s ρ σ → D.ct σ H
  | .rt false d s => Post C S.θ S.B S.Γ S.H S.s s d D.rt
  | .rt true d s => ∃ ds, d = .lst ds ∧ PostF C S.θ S.B S.Γ S.H S.s s ds D.rt
  | .ex d s => Post C S.θ S.B S.Γ S.H S.s s d Wx
def OkS (C : Cn) (P : Par) (Wx : VK) (t : S) : Prop := ∀ (S : Sta) θa Γa θ B G H s ρ σ out D, Ws C S θa Γa θ B G H s ρ σ → exec P t ρ s = some out → Fin C S θa Γa Wx out D → rdS C P Wx t D σ H
section
variable {C : Cn} {P : Par} {Wx : VK} {S : Sta} {θa θ θ' : List Addr} {Γa B G H B' Γ' G' H' : Hp} {s s' : Ss} {ρ : Env} {σ : L2.St}
theorem setsS_ok : ∀ {is : List Nat} {xs : List D} {vs : List V} {ρ ρ' : Env} {σ : L2.St} {Q : L2.St → Hp → Prop}, setsS ρ is xs = some ρ' → Reps C θ G vs xs → Ws C S θa Γa θ B G H s ρ σ →
    (∀ σ', Ws C S θa Γa θ B G H s ρ' σ' → Q σ' H) → gsN is vs σ H Q
  | [], [], _, ρ, ρ', σ, Q, h, r, w, hq => by
    cases r; cases h
    exact ⟨rfl, hq σ w⟩
  | [], _ :: _, _, _, _, _, _, h, _, _, _ => by cases h
  | i :: is, [], _, _, _, _, _, h, _, _, _ => by cases h
  | i :: is, x :: xs, _, ρ, ρ', σ, Q, h, r, w, hq => by
    cases r with | cons h0 r0 =>
    unfold setsS at h
    split at h
    · rename_i hi
      exact ⟨_, _, rfl, setsS_ok h r0 (w.set (x := .frz x) hi h0) hq⟩
    · cases h
theorem setsS_len : ∀ {is : List Nat} {xs : List D} {ρ ρ' : Env}, setsS ρ is xs = some ρ' → xs.length = is.length
  | [], [], _, _, _ => rfl
  | [], _ :: _, _, _, h => by cases h
  | _ :: _, [], _, _, h => by cases h
  | i :: is, x :: xs, ρ, ρ', h => by
    unfold setsS at h
    split at h
    · simp [setsS_len h]
    · cases h
theorem tgS_ok {tg : Tg} {x : D} {v : V} {ρ ρ' : Env} {σ : L2.St} {Q : L2.St → Hp → Prop} (h : tgS tg x ρ = some ρ') (r : Rep C θ G v x) (w : Ws C S θa Γa θ B G H s ρ σ)
    (hq : ∀ σ', Ws C S θa Γa θ B G H s ρ' σ' → Q σ' H) : rdG C.K tg v σ H Q := by
  cases tg with
  | nm i =>
    simp only [tgS] at h
    split at h
    · rename_i hi
      cases h
      exact hq _ (w.set (x := .frz x) hi r)
    · cases h
  | tps is =>
    cases x <;> try (simp [tgS] at h; done)
    rename_i xs
    cases r with | tup hs rr =>
    have h : setsS ρ is xs = some ρ' := h
    exact ⟨_, _, rfl, Same.seqT w.gr.wd.gh hs, by rw [rr.length, setsS_len h], setsS_ok h rr w hq⟩
theorem setS_inv {i : Nat} {x : Slot} {ρ ρ' : Env} (h : setS ρ i x = some ρ') : i < ρ.length ∧ ρ' = ρ.set i x := by
  unfold setS at h
  split at h
  · rename_i hi; cases h; exact ⟨hi, rfl⟩
  · cases h
theorem test_ok (T : Base C P) {c : E} {b : Bool} {Q : Bool → Hp → Prop} (w : Ws C S θa Γa θ B G H s ρ σ) (h : test P c ρ s = some (b, s')) (hq : ∀ θ' B' G' H', Ws C S θa Γa θ' B' G' H' s' ρ σ → Q b H') : (rd C P c).tt σ H Q := by
  obtain ⟨d, s1, e1, h⟩ := bnd_inv h
  split at h
  · rename_i hc
    obtain ⟨k, e2, e3⟩ := map_inv h
    cases e3
    exact (sound T c).2.1 _ _ _ _ _ _ _ _ _ _ _ w.wd w.env e1 e2 fun θ1 B1 Γ1 H1 g => hq _ _ _ _ (w.stepV g hc)
  · cases h
theorem ok_asg (T : Base C P) {i : Nat} {m : Md} {e : E} : OkS C P Wx (.asg i m e) := fun S θa Γa θ B G H s ρ σ out D w h hf => by
  obtain ⟨q, e1, h⟩ := bind_inv h
  obtain ⟨ρ', e2, h⟩ := map_inv h
  obtain ⟨hi, rfl⟩ := setS_inv e2
  subst h
  exact keep_ok T (x := q.1) (s' := q.2) w e1 fun v θ' B' G' H' w' r => hf _ _ _ _ _ (w'.set hi r)
theorem ok_unp (T : Base C P) {is : List Nat} {m : Md} {e : E} : OkS C P Wx (.unp is m e) := fun S θa Γa θ B G H s ρ σ out D w h hf => by
  obtain ⟨q, e1, h⟩ := bind_inv h
  split at h
  · rename_i xs eq
    obtain ⟨ρ', e2, h⟩ := map_inv h
    subst h
    refine keep_ok T (x := q.1) (s' := q.2) w e1 fun v θ' B' G' H' w' r => ?_
    rw [eq] at r
    have r : Rep C θ' G' v (.tup xs) := r
    cases r with | tup hs rr =>
    exact ⟨_, _, rfl, Same.seqT w'.gr.wd.gh hs, by rw [rr.length, setsS_len e2], setsS_ok e2 rr w' fun σ' w2 => hf _ _ _ _ _ w2⟩
  · cases h
theorem ok_app (T : Base C P) {i : Nat} {m : Md} {e : E} : OkS C P Wx (.app i m e) := fun S θa Γa θ B G H s ρ σ out D w h hf => by
  obtain ⟨q, e1, h⟩ := bind_inv h
  split at h
  · rename_i d ds eq ei
    split at h
    · rename_i hz
      cases h
      obtain ⟨p, vs, eσ, h1, _, _, _, hr0⟩ := w.own i ds ei
      refine ⟨_, eσ, .inl ⟨rfl, _, sqL_of h1⟩, ?_⟩
      refine keep_ok T (x := q.1) (s' := q.2) w e1 fun v θ' B' G' H' w' r => ?_
      rw [eq] at r
      have r : Rep C θ' G' v d := r
      obtain ⟨p', vs', eσ', h1', _, _, _, hr'⟩ := w'.own i ds ei
      rw [eσ] at eσ'
      cases eσ'
      refine ⟨p, vs', v, rfl, rfl, h1', by rw [hr'.length, ← SZ_eq]; exact hz, ?_⟩
      exact hf _ _ _ _ _ (w'.grow ei eσ (hr'.append (.cons r .nil)))
    · cases h
  · cases h
theorem ok_ext (T : Base C P) {i : Nat} {e : E} : OkS C P Wx (.ext i e) := fun S θa Γa θ B G H s ρ σ out D w h hf => by
  obtain ⟨d, s1, e1, h⟩ := bnd_inv h
  split at h
  · rename_i xs ds ei
    split at h
    · rename_i hc
      cases h
      obtain ⟨hc, hz⟩ := Bool.and_eq_true_iff.mp hc
      obtain ⟨hc, hp⟩ := Bool.and_eq_true_iff.mp hc
      have hz := of_decide_eq_true hz
      obtain ⟨p, vs, eσ, h1, _, _, _, hr0⟩ := w.own i ds ei
      refine ⟨_, eσ, .inl ⟨rfl, _, sqL_of h1⟩, ?_⟩
      refine (sound T e).1 _ _ _ _ _ _ _ _ _ _ w.wd w.env e1 fun v θ1 B1 Γ1 H1 g r => ?_
      have w' := w.stepV g hc
      obtain ⟨p', vs', eσ', h1', _, _, _, hr'⟩ := w'.own i ds ei
      rw [eσ] at eσ'
      cases eσ'
      cases r with | lst hs rr =>
      refine ⟨p, _, vs', _, rfl, rfl, h1', g.wd.gh _ _ hs, by rw [hr'.length, rr.length, ← SZ_eq]; exact hz, ?_⟩
      exact hf _ _ _ _ _ (w'.grow ei eσ (hr'.append (Reps.ofPur (w.lessT g) hp rr)))
    · cases h
  · cases h
theorem ok_dset (T : Base C P) {o : E} {k : Nat} {e : E} : OkS C P Wx (.dset o k e) := fun S θa Γa θ B G H s ρ σ out D w h hf => by
  obtain ⟨d, s1, e1, h⟩ := bnd_inv h
  obtain ⟨l, s2, e2, h⟩ := bnd_inv h
  split at h
  · rename_i c
    split at h
    · rename_i cl ec
      split at h
      · rename_i hc
        cases h
        obtain ⟨hc, hk⟩ := Bool.and_eq_true_iff.mp hc
        obtain ⟨hc, hp⟩ := Bool.and_eq_true_iff.mp hc
        refine (sound T e).1 _ _ _ _ _ _ _ _ _ _ w.wd w.env e1 fun v θ1 B1 Γ1 H1 g r => ?_
        refine (sound T o).1 _ _ _ _ _ _ _ _ _ _ g.wd (g.env w.env) e2 fun u θ2 B2 Γ2 H2 g2 r2 => ?_
        have w' := w.stepV (g.trans g2) hc
        cases r2 with | loc ha =>
        have rv : Rep C θ2 (less Γ2 ρ σ) v d := (g2.rep r).ofPur (w.lessT (g.trans g2)) hp
        obtain ⟨kvs, h1, h2, w3⟩ := w'.cell ha ec hk rv hp
        exact ⟨_, _, rfl, DPut.k (k := Sum.inr (C.key k)) h1 h2, hf _ _ _ _ _ w3⟩
      · cases h
    · cases h
  · cases h
theorem ok_expr (T : Base C P) {e : E} : OkS C P Wx (.expr e) := fun S θa Γa θ B G H s ρ σ out D w h hf => by
  obtain ⟨d, s1, e1, h⟩ := bnd_inv h
  split at h
  · rename_i hc
    cases h
    exact (sound T e).1 _ _ _ _ _ _ _ _ _ _ w.wd w.env e1 fun v θ1 B1 Γ1 H1 g r => hf _ _ _ _ _ (w.stepV g hc)
  · cases h
theorem ok_ret (T : Base C P) {m : Md} {e : E} : OkS C P Wx (.ret m e) := fun S θa Γa θ B G H s ρ σ out D w h hf => by
  obtain ⟨q, e1, h⟩ := bind_inv h
  refine keep_ok T (x := q.1) (s' := q.2) (Q := D.rt) w e1 fun v θ' B' G' H' w' r => ?_
  split at h
  · rename_i d eq
    cases h
    rw [eq] at r
    exact hf _ _ _ _ _ w'.gr r
  · rename_i ds eq
    cases h
    rw [eq] at r
    obtain ⟨p, vs, rfl, h1, h2, h3, h4, h5, _⟩ := r
    obtain ⟨ds', e', hf⟩ := hf
    cases e'
    exact hf p vs _ _ _ _ w'.gr h4 h1 h2 h3 h5
  · cases h
theorem ok_reto {i : Nat} : OkS C P Wx (.reto i) := fun S θa Γa θ B G H s ρ σ out D w h hf => by
  simp only [exec] at h
  split at h
  · rename_i ds ei
    cases h
    obtain ⟨p, vs, eσ, h1, h2, h3, h4, h5⟩ := w.own i ds ei
    obtain ⟨ds', e', hf⟩ := hf
    cases e'
    exact ⟨_, eσ, hf p vs _ _ _ _ w.gr h4 h1 h2 h3 h5⟩
  · cases h
theorem Fin.other {o : Out} {D : Ends} {f : L2.St → Hp → Prop} (h : Fin C S θa Γa Wx o D) (hn : ∀ ρ s, o ≠ .nx ρ s) : Fin C S θa Γa Wx o { D with nx := f } := by
  cases o with
  | nx ρ s => exact absurd rfl (hn ρ s)
  | bk ρ s => exact h
  | ct ρ s => exact h
  | rt b d s => cases b <;> exact h
  | ex d s => exact h
theorem ok_seq {a b : DL.S} (ha : OkS C P Wx a) (hb : OkS C P Wx b) : OkS C P Wx (.seq a b) := fun S θa Γa θ B G H s ρ σ out D w h hf => by
  simp only [exec] at h
  split at h
  · rename_i ρ' s' e1
    exact ha S _ _ _ _ _ _ _ _ _ _ _ w e1 fun θ' B' G' H' σ' w' => hb S _ _ _ _ _ _ _ _ _ _ _ w' h hf
  · rename_i o e1
    refine ha S _ _ _ _ _ _ _ _ _ _ _ w h (hf.other fun ρ' s' e => ?_)
    subst e
    exact e1 ρ' s' h
theorem ok_ite_s (T : Base C P) {c : E} {a b : DL.S} (ha : OkS C P Wx a) (hb : OkS C P Wx b) : OkS C P Wx (.ite c a b) := fun S θa Γa θ B G H s ρ σ out D w h hf => by
  simp only [exec] at h
  split at h
  · rename_i s' e1
    refine test_ok T w e1 fun θ' B' G' H' w' => ?_
    rw [if_pos rfl]
    exact ha S _ _ _ _ _ _ _ _ _ _ _ w' h hf
  · rename_i s' e1
    refine test_ok T w e1 fun θ' B' G' H' w' => ?_
    rw [if_neg Bool.false_ne_true]
    exact hb S _ _ _ _ _ _ _ _ _ _ _ w' h hf
  · cases h
/-- the ends of a turn -/
theorem fin_turn {o : Out} {D : Ends} {N : L2.St → Hp → Prop} {out : Out} {θb : List Addr} {Γb : Hp} (hf : Fin C S θa Γa Wx out D) (hs : Same Γa Γb) (ht : ∀ (i : Nat) (a : Addr), θa[i]? = some a → θb[i]? = some a)
    (h : match o with
      | .nx ρ s => ∀ θ B G H σ, Ws C S θb Γb θ B G H s ρ σ → N σ H
      | .ct ρ s => ∀ θ B G H σ, Ws C S θb Γb θ B G H s ρ σ → N σ H
      | .bk ρ s => out = .nx ρ s
      | .rt f d s => out = .rt f d s
      | .ex d s => out = .ex d s) : Fin C S θb Γb Wx o { D with nx := N, ct := N, bk := D.nx } := by
  cases o with
  | nx ρ s => exact h
  | ct ρ s => exact h
  | bk ρ s =>
    have h : out = .nx ρ s := h
    subst h
    exact fun θ B G H σ w => hf θ B G H σ (w.weak hs ht)
  | rt f d s =>
    have h : out = .rt f d s := h
    subst h
    cases f <;> exact hf
  | ex d s =>
    have h : out = .ex d s := h
    subst h
    exact hf
theorem ok_while (T : Base C P) {c : E} {b : DL.S} (hb : OkS C P Wx b) : OkS C P Wx (.while_ c b) := fun S θa Γa θ B G H s ρ σ out D w h hf => by
  refine ⟨fun m σ' H' => ∃ θ B G ρ s, Ws C S θa Γa θ B G H' s ρ σ' ∧ whF (test P c) (exec P b) m ρ s = some out, ⟨P.N, θ, B, G, ρ, s, w, h⟩, ?_⟩
  rintro m σ' H' ⟨θ1, B1, G1, ρ1, s1, w1, h1⟩
  cases m with
  | zero => cases h1
  | succ m =>
    simp only [whF] at h1
    split at h1
    · cases h1
    · rename_i s2 e1
      cases h1
      refine test_ok T w1 e1 fun θ' B' G' H' w' => ?_
      rw [if_neg Bool.false_ne_true]
      exact hf _ _ _ _ _ w'
    · rename_i s2 e1
      refine test_ok T w1 e1 fun θ' B' G' H' w' => ?_
      rw [if_pos rfl]
      have key : ∀ o, exec P b ρ1 s2 = some o → (match o with
          | .nx ρ' s' => whF (test P c) (exec P b) m ρ' s' = some out
          | .ct ρ' s' => whF (test P c) (exec P b) m ρ' s' = some out
          | .bk ρ' s' => out = .nx ρ' s'
          | .rt f d s' => out = .rt f d s'
          | .ex d s' => out = .ex d s') → ∃ N : L2.St → Hp → Prop, (∀ σ2 H2, N σ2 H2 → ∃ m', m' < m + 1 ∧ ∃ θ B G ρ s, Ws C S θa Γa θ B G H2 s ρ σ2 ∧ whF (test P c) (exec P b) m' ρ s = some out) ∧ rdS C P Wx b { D with nx := N, ct := N, bk := D.nx } σ' H' := fun o eo ho => by
        refine ⟨fun σ2 H2 => ∃ θ B G ρ s, Ws C S θa Γa θ B G H2 s ρ σ2 ∧ whF (test P c) (exec P b) m ρ s = some out, fun σ2 H2 q => ⟨m, Nat.lt_succ_self m, q⟩, ?_⟩
        refine hb S _ _ _ _ _ _ _ _ _ o _ w' eo (fin_turn hf (Same.refl _) (fun _ _ z => z) ?_)
        cases o with
        | nx ρ2 s3 => exact fun θ2 B2 G2 H2 σ2 w2 => ⟨_, _, _, _, _, w2, ho⟩
        | ct ρ2 s3 => exact fun θ2 B2 G2 H2 σ2 w2 => ⟨_, _, _, _, _, w2, ho⟩
        | bk ρ2 s3 => exact ho
        | rt f d s3 => exact ho
        | ex d s3 => exact ho
      split at h1
      · rename_i ρ2 s3 eo; exact key _ eo h1
      · rename_i ρ2 s3 eo; exact key _ eo h1
      · rename_i ρ2 s3 eo; exact key _ eo (by cases h1; rfl)
      · rename_i f d s3 eo; exact key _ eo (by cases h1; rfl)
      · rename_i d s3 eo; exact key _ eo (by cases h1; rfl)
      · cases h1
theorem ok_for (T : Base C P) {k : Itk} {src : E} {tg : Tg} {b : DL.S} (hb : OkS C P Wx b) : OkS C P Wx (.for_ k src tg b) := fun S θa Γa θ B G H s ρ σ out D w h hf => by
  obtain ⟨d, s1, e1, h⟩ := bnd_inv h
  split at h
  case isFalse => cases h
  rename_i hc
  obtain ⟨xs, e2, h⟩ := bind_inv h
  refine it_ok (sound T src).1 (sound T src).2.2 w.gr.wd w.envH e1 e2 fun J θ1 B1 Γ1 H1 g1 wk => ?_
  have w1 := w.stepG g1
  generalize hstep : (fun x ρ s => (tgS tg x ρ).bind fun ρ' => exec P b ρ' s) = step at h
  refine ⟨fun i m σ' H' => m = xs.length - i ∧ i ≤ xs.length ∧ ∃ θ B G ρ s, Ws C S θ1 Γ1 θ B G H' s ρ σ' ∧ forF step (xs.drop i) ρ s = some out, ⟨xs.length, by simp, Nat.zero_le _, θ1, B1, Γ1, ρ, s1, w1.anchor, by simpa using h⟩, ?_⟩
  rintro i m σ' H' ⟨rfl, hi, θ', B', G', ρ', s', w', h'⟩
  have hs1 : Same Γ1 H' := w'.an.trans w'.gr.wd.gh
  by_cases hlt : i < xs.length
  · refine .inr ⟨wk.go i hlt H' hs1, ?_⟩
    have hx : xs.drop i = xs[i] :: xs.drop (i + 1) := List.drop_eq_getElem_cons hlt
    rw [hx] at h'
    simp only [forF] at h'
    have key : ∀ o, step xs[i] ρ' s' = some o → (match o with
          | .nx ρ' s' => forF step (xs.drop (i + 1)) ρ' s' = some out
          | .ct ρ' s' => forF step (xs.drop (i + 1)) ρ' s' = some out
          | .bk ρ' s' => out = .nx ρ' s'
          | .rt f d s' => out = .rt f d s'
          | .ex d s' => out = .ex d s') → ∃ N : L2.St → Hp → Prop, (∀ σ2 H2, N σ2 H2 → ∃ m', m' < xs.length - i ∧ (m' = xs.length - (i + 1) ∧ i + 1 ≤ xs.length ∧ ∃ θ B G ρ s, Ws C S θ1 Γ1 θ B G H2 s ρ σ2 ∧ forF step (xs.drop (i + 1)) ρ s = some out)) ∧
            ∀ x H2, J.yld i H' x H2 → rdG C.K tg x σ' H2 fun σ2 H3 => rdS C P Wx b { D with nx := N, ct := N, bk := D.nx } σ2 H3 := fun o eo ho => by
      refine ⟨fun σ2 H2 => ∃ θ B G ρ s, Ws C S θ1 Γ1 θ B G H2 s ρ σ2 ∧ forF step (xs.drop (i + 1)) ρ s = some out, fun σ2 H2 q => ⟨_, by omega, rfl, hlt, q⟩, fun x H2 y => ?_⟩
      obtain ⟨x', ex, hy⟩ := wk.yld i H' x H2 hlt hs1 y
      have exx : x' = xs[i] := by rw [List.getElem?_eq_getElem hlt] at ex; exact (Option.some.inj ex).symm
      subst exx
      have hyld : ∃ G2, Ws C S θ1 Γ1 θ' B' G2 H2 s' ρ' σ' ∧ Rep C θ' G2 x xs[i] := by
        rcases hy with ⟨rfl, r⟩ | ⟨T0, vs, ds', rfl, hT, rfl, e6, r⟩
        · exact ⟨G', w', r.mono w'.an w'.ath⟩
        · rw [e6]
          exact ⟨_, w'.stepG (Gr.new w'.gr.wd hT), .tup (sqT_of upd_same) ((r.mono w'.an w'.ath).mono (same_upd (w'.gr.wd.gfree hT)) fun _ _ z => z)⟩
      obtain ⟨G2, w2, rx⟩ := hyld
      rw [← hstep] at eo
      obtain ⟨ρ2, et, eo⟩ := bind_inv eo
      refine tgS_ok et rx w2 fun σ2 w3 => ?_
      refine hb S _ _ _ _ _ _ _ _ _ o _ w3 eo (fin_turn hf (w.an.trans g1.gg) (fun j a z => g1.th j a (w.ath j a z)) ?_)
      cases o with
      | nx ρ2 s3 => exact fun θ2 B2 G2 H2 σ2 w2 => ⟨_, _, _, _, _, w2, ho⟩
      | ct ρ2 s3 => exact fun θ2 B2 G2 H2 σ2 w2 => ⟨_, _, _, _, _, w2, ho⟩
      | bk ρ2 s3 => exact ho
      | rt f d s3 => exact ho
      | ex d s3 => exact ho
    split at h'
    · rename_i ρ2 s3 eo; exact key _ eo h'
    · rename_i ρ2 s3 eo; exact key _ eo h'
    · rename_i ρ2 s3 eo; exact key _ eo (by cases h'; rfl)
    · rename_i f d s3 eo; exact key _ eo (by cases h'; rfl)
    · rename_i d s3 eo; exact key _ eo (by cases h'; rfl)
    · cases h'
  · have hi' : i = xs.length := by omega
    subst hi'
    refine .inl ⟨wk.stop H' hs1, ?_⟩
    rw [List.drop_length] at h'
    cases h'
    exact hf _ _ _ _ _ (w'.weak (w.an.trans g1.gg) fun j a z => g1.th j a (w.ath j a z))
theorem soundS (T : Base C P) : ∀ t : DL.S, OkS C P Wx t := by
  intro t
  induction t with
  | skip => exact fun S θa Γa θ B G H s ρ σ out D w h hf => by cases h; exact hf _ _ _ _ _ w
  | seq a b ha hb => exact ok_seq ha hb
  | asg i m e => exact ok_asg T
  | unp is m e => exact ok_unp T
  | app i m e => exact ok_app T
  | ext i e => exact ok_ext T
  | dset o k e => exact ok_dset T
  | expr e => exact ok_expr T
  | ite c a b ha hb => exact ok_ite_s T ha hb
  | for_ k src tg b hb => exact ok_for T hb
  | while_ c b hb => exact ok_while T hb
  | ret m e => exact ok_ret T
  | reto i => exact ok_reto
  | brk => exact fun S θa Γa θ B G H s ρ σ out D w h hf => by cases h; exact hf _ _ _ _ _ w
  | cont => exact fun S θa Γa θ B G H s ρ σ out D w h hf => by cases h; exact hf _ _ _ _ _ w
  | never => exact fun S θa Γa θ B G H s ρ σ out D w h hf => by cases h
  | raise_ e =>
    intro S θa Γa θ B G H s ρ σ out D w h hf
    obtain ⟨q, e1, h⟩ := bind_inv h
    refine keep_ok T (x := q.1) (s' := q.2) (Q := Wx) w e1 fun v θ' B' G' H' w' r => ?_
    split at h
    · rename_i d eq
      cases h
      rw [eq] at r
      exact hf _ _ _ _ _ w'.gr r
    · cases h
/-- a def's body, from its promise -/
theorem run_ok (T : Base C P) {f : Fn} {N : List Str} (hN : N.length = f.nl) (hnp : f.np ≤ f.nl) {vs : List V} {H : Hp} {Q : VK} {E : XK} (h : spD C (runF P f) f.fr vs H Q E) : rdS C P Wx f.body { nx := fun _ H' => Q .non H', rt := Q } (start N vs) H := by
  obtain ⟨θ, B, Γ, s, ds, d, s', W, r, e, hp⟩ := h
  unfold runF at e
  split at e
  case isFalse => cases e
  rename_i hlen
  have hl := r.length
  have w : Ws C ⟨θ, B, Γ, H, s⟩ θ Γ θ B Γ H s (ds.map .frz ++ List.replicate (f.nl - f.np) .nil) (start N vs) := by
    have at_ : ∀ (i : Nat) (x : Slot), (ds.map Slot.frz ++ List.replicate (f.nl - f.np) Slot.nil)[i]? = some x → (∃ d, x = .frz d ∧ ds[i]? = some d) ∨ x = .nil := fun i x h => by
      by_cases hi : i < ds.length
      · rw [List.getElem?_append_left (by simpa using hi), List.getElem?_map] at h
        rw [List.getElem?_eq_getElem hi] at h
        cases h
        exact .inl ⟨_, rfl, List.getElem?_eq_getElem hi⟩
      · rw [List.getElem?_append_right (by simp; omega), List.getElem?_replicate] at h
        split at h
        · cases h; exact .inr rfl
        · cases h
    refine ⟨Gr.refl W, ?_, fun i d h => ?_, fun i es h => ?_, fun i j es fs p h => ?_, Same.refl _, fun _ _ z => z⟩
    · unfold L2.start
      simp
      omega
    · rcases at_ i _ h with ⟨d', e1, e2⟩ | e1
      · cases e1
        obtain ⟨v, e3, r3⟩ := r.get e2
        refine ⟨v, ?_, r3⟩
        unfold L2.start
        rw [List.getElem?_append_left (by simpa using (List.getElem?_eq_some_iff.mp e3).1), List.getElem?_map, e3]
        rfl
      · cases e1
    · rcases at_ i _ h with ⟨d', e1, e2⟩ | e1 <;> cases e1
    · rcases at_ i _ h with ⟨d', e1, e2⟩ | e1 <;> cases e1
  split at e
  · rename_i b d' s2 eo
    split at e
    · rename_i hb
      cases e
      refine soundS T f.body ⟨θ, B, Γ, H, s⟩ _ _ _ _ _ _ _ _ _ _ _ w eo ?_
      rw [← hb] at hp
      cases b with
      | false => exact hp
      | true => exact hp
    · cases e
  · rename_i ρ' s2 eo
    split at e
    · cases e
    · rename_i hb
      cases e
      refine soundS T f.body ⟨θ, B, Γ, H, s⟩ _ _ _ _ _ _ _ _ _ _ _ w eo ?_
      have hb : f.fr = false := by simpa using hb
      rw [hb] at hp
      exact fun θ' B' G' H' σ' w' => hp _ _ _ _ _ w'.gr .non
  · cases e
/-- a def that may raise -/
def spX (C : Cn) (φ : List D → Ss → Option ((D ⊕ D) × Ss)) (W : XK → VK) : Sp := fun vs H Q E => ∃ θ B Γ s ds r s', Wd C θ B Γ H s ∧ Reps C θ Γ vs ds ∧ φ ds s = some (r, s') ∧
  match r with
  | .inl d => Post C θ B Γ H s s' d Q
  | .inr d => Post C θ B Γ H s s' d (W E)
theorem run_okX (T : Base C P) {f : Fn} {N : List Str} (hN : N.length = f.nl) (hnp : f.np ≤ f.nl) {vs : List V} {H : Hp} {Q : VK} {E : XK} {W : XK → VK} (h : spX C (runX P f) W vs H Q E) : rdS C P (W E) f.body { nx := fun _ H' => Q .non H', rt := Q } (L2.start N vs) H := by
  obtain ⟨θ, B, Γ, s, ds, d, s', W0, r, e, hp⟩ := h
  unfold runX at e
  split at e
  case isFalse => cases e
  rename_i hlen
  have hl := r.length
  have w : Ws C ⟨θ, B, Γ, H, s⟩ θ Γ θ B Γ H s (ds.map .frz ++ List.replicate (f.nl - f.np) .nil) (start N vs) := by
    have at_ : ∀ (i : Nat) (x : Slot), (ds.map Slot.frz ++ List.replicate (f.nl - f.np) Slot.nil)[i]? = some x → (∃ d, x = .frz d ∧ ds[i]? = some d) ∨ x = .nil := fun i x h => by
      by_cases hi : i < ds.length
      · rw [List.getElem?_append_left (by simpa using hi), List.getElem?_map] at h
        rw [List.getElem?_eq_getElem hi] at h
        cases h
        exact .inl ⟨_, rfl, List.getElem?_eq_getElem hi⟩
      · rw [List.getElem?_append_right (by simp; omega), List.getElem?_replicate] at h
        split at h
        · cases h; exact .inr rfl
        · cases h
    refine ⟨Gr.refl W0, ?_, fun i d h => ?_, fun i es h => ?_, fun i j es fs p h => ?_, Same.refl _, fun _ _ z => z⟩
    · unfold L2.start
      simp
      omega
    · rcases at_ i _ h with ⟨d', e1, e2⟩ | e1
      · cases e1
        obtain ⟨v, e3, r3⟩ := r.get e2
        refine ⟨v, ?_, r3⟩
        unfold L2.start
        rw [List.getElem?_append_left (by simpa using (List.getElem?_eq_some_iff.mp e3).1), List.getElem?_map, e3]
        rfl
      · cases e1
    · rcases at_ i _ h with ⟨d', e1, e2⟩ | e1 <;> cases e1
    · rcases at_ i _ h with ⟨d', e1, e2⟩ | e1 <;> cases e1
  split at e
  · rename_i d' s2 eo
    cases e
    exact soundS T f.body ⟨θ, B, Γ, H, s⟩ _ _ _ _ _ _ _ _ _ _ _ w eo hp
  · rename_i d' s2 eo
    cases e
    exact soundS T f.body ⟨θ, B, Γ, H, s⟩ _ _ _ _ _ _ _ _ _ _ _ w eo hp
  · cases e
theorem spD_len {C : Cn} {φ : List D → Ss → Option (D × Ss)} {fr : Bool} {n : Nat} (h : ∀ ds s r, φ ds s = some r → ds.length = n) {vs : List V} {H : Hp} {Q : VK} {E : XK} (q : spD C φ fr vs H Q E) : vs.length = n := by
  obtain ⟨θ, B, Γ, s, ds, d, s', W, r, e, _⟩ := q
  rw [r.length, h _ _ _ e]
theorem runF_len {f : Fn} {ds : List D} {s : Ss} {r : D × Ss} (h : runF P f ds s = some r) : ds.length = f.np := by
  unfold runF at h
  split at h
  · assumption
  · cases h
end
end DL
set_option Elab.async false
set_option linter.all false
set_option maxRecDepth 100000
set_option maxHeartbeats 1000000
/-! Rules in short for the derivations that a program of ours prints; a def that hands back new lists; calls by level. -/
namespace DL
open PySem L2
section
variable {X : Cx}
theorem pe_imp {e : Expr} {t t' : TE} (h : PE X e t) (i : ∀ σ H Q, t' σ H Q → t σ H Q) : PE X e t' := ⟨fun pins s σ H Q I q => h.run pins s σ H Q I (i _ _ _ q)⟩
theorem qs {x : Str} {l : List Nat} {j : Nat} {pos : Pos} (h : x = cps l) : PE X (.Constant (.str x) j pos) (tC (.str (cps l))) := by rw [h]; exact pe_str
theorem qneg {n : Int} {j : Nat} {p pos : Pos} : PE X (.UnaryOp .USub (.Constant (.int n) j p) pos) (tC (.int (-n))) := pe_imp (pe_un un_neg pe_int) fun _ _ _ q => ⟨n, rfl, q⟩
theorem opAdd : OpR X (binaryOp .Add) rAddA := OpR.or op_add (OpR.or op_add_str op_cat)
theorem opIn : OpR X (compareOp .In) (rInA X.K) := OpR.or op_in_sign op_in_seq
theorem opNotIn : OpR X (compareOp .NotIn) (rNotInA X.K) := OpR.or op_notIn_sign op_notIn_seq
theorem cInt : CallR X (.type "int") rIntA := CallR.or call_int1 call_int_str
theorem cStr : CallR X (.type "str") rStrA := CallR.or call_str_int SkE.call_str_str
/-- a written name of the module: a whole number, a text -/
theorem qgi {x : Str} {i : Int} {pos : Pos} (hg : Gl X x) (h : ∃ t, X.mg x = some (.int i t)) (hd : (x == ("__debug__" : Str)) = false := by decide) : PE X (.Name x pos) (tC (.int i)) := by
  obtain ⟨t, e⟩ := h
  exact pe_glob hg e ⟨t, rfl⟩ hd
theorem qgs {x z : Str} {l : List Nat} {pos : Pos} (hg : Gl X x) (h : ∃ t, X.mg x = some (.str z t)) (hz : z = cps l) (hd : (x == ("__debug__" : Str)) = false := by decide) : PE X (.Name x pos) (tC (.str (cps l))) := by
  obtain ⟨t, e⟩ := h
  subst hz
  exact pe_glob hg e ⟨t, rfl⟩ hd
theorem qgr {x : Str} {a : Addr} {pos : Pos} (hg : Gl X x) (h : X.mg x = some (.ref a)) (hd : (x == ("__debug__" : Str)) = false := by decide) : PE X (.Name x pos) (tC (.ref a)) := pe_glob hg h rfl hd
theorem qty {x : Str} {n : String} {pos : Pos} (hg : Gl X x) (hm : X.mg x = none) (hv : bootBuiltins x = some (.type n)) (hn : x ≠ "__name__" := by decide) (hd : (x == ("__debug__" : Str)) = false := by decide) : PE X (.Name x pos) (tC (.ty n)) := pe_bltn hg hm hv rfl hn hd
theorem opKin {d : Addr} {es : Array DictEntry} {n : Nat} (D : KDict X.K X.w d es n) : OpR X (compareOp .In) (rKin X.K d false) := op_in_kd D
theorem opKnin {d : Addr} {es : Array DictEntry} {n : Nat} (D : KDict X.K X.w d es n) : OpR X (compareOp .NotIn) (rKin X.K d true) := op_notIn_kd D
theorem ptT {a : Expr} {ta : TE} (ha : PE X a ta) (he : ∀ whole, isTrue a X.env whole = (do let v ← whole; standAt a.pos; holding [v] (truthy v)) := by intro _; rfl) :
    PT X a (fun σ H Q => ta σ H fun x H' => ∃ k, TruV X.K x H' k ∧ Q k H') := pt_truth ha he
end
/-! ### a def that hands back new lists -/
section
variable {P : Par}
theorem keep_own {m : Md} {e : E} {ρ : Env} {s s' : Ss} {x : Slot} (h : keep P m e ρ s = some (x, s')) : True := trivial
theorem rt_whF {cond : Env → Ss → Option (Bool × Ss)} {step : Env → Ss → Option Out} (hs : ∀ ρ s d s', step ρ s = some (.rt true d s') → ∃ ds, d = .lst ds) : ∀ (n : Nat) {ρ : Env} {s s' : Ss} {d : D}, whF cond step n ρ s = some (.rt true d s') → ∃ ds, d = .lst ds
  | 0, _, _, _, _, h => by cases h
  | n + 1, ρ, s, s', d, h => by
    simp only [whF] at h
    split at h
    · cases h
    · cases h
    · split at h
      · exact rt_whF hs n h
      · exact rt_whF hs n h
      · cases h
      · rename_i e; cases h; exact hs _ _ _ _ e
      · cases h
      · cases h
theorem rt_forF {step : D → Env → Ss → Option Out} (hs : ∀ x ρ s d s', step x ρ s = some (.rt true d s') → ∃ ds, d = .lst ds) : ∀ (xs : List D) {ρ : Env} {s s' : Ss} {d : D}, forF step xs ρ s = some (.rt true d s') → ∃ ds, d = .lst ds
  | [], _, _, _, _, h => by cases h
  | x :: xs, ρ, s, s', d, h => by
    simp only [forF] at h
    split at h
    · exact rt_forF hs xs h
    · exact rt_forF hs xs h
    · cases h
    · rename_i e; cases h; exact hs _ _ _ _ _ e
    · cases h
    · cases h
theorem exec_rt : ∀ (t : S) {ρ : Env} {s s' : Ss} {d : D}, exec P t ρ s = some (.rt true d s') → ∃ ds, d = .lst ds := by
  intro t
  induction t with
  | skip => intro ρ s s' d h; cases h
  | seq a b ha hb =>
    intro ρ s s' d h
    simp only [exec] at h
    split at h
    · exact hb h
    · exact ha h
  | asg i m e => intro ρ s s' d h; obtain ⟨q, e1, h⟩ := bind_inv h; obtain ⟨q', _, h⟩ := map_inv h; cases h
  | unp is m e =>
    intro ρ s s' d h; obtain ⟨q, e1, h⟩ := bind_inv h
    split at h
    · obtain ⟨q', _, h⟩ := map_inv h; cases h
    · cases h
  | app i m e =>
    intro ρ s s' d h; obtain ⟨q, e1, h⟩ := bind_inv h
    split at h
    · split at h <;> cases h
    · cases h
  | ext i e =>
    intro ρ s s' d h; obtain ⟨q, q2, e1, h⟩ := bnd_inv h
    split at h
    · split at h <;> cases h
    · cases h
  | dset o k e =>
    intro ρ s s' d h; obtain ⟨q, q2, e1, h⟩ := bnd_inv h; obtain ⟨q, q3, e1, h⟩ := bnd_inv h
    split at h
    · split at h
      · split at h <;> cases h
      · cases h
    · cases h
  | expr e =>
    intro ρ s s' d h; obtain ⟨q, q2, e1, h⟩ := bnd_inv h
    split at h <;> cases h
  | ite c a b ha hb =>
    intro ρ s s' d h
    simp only [exec] at h
    split at h
    · exact ha h
    · exact hb h
    · cases h
  | for_ k src tg b hb =>
    intro ρ s s' d h; obtain ⟨q, q2, e1, h⟩ := bnd_inv h
    split at h
    · obtain ⟨xs, e2, h⟩ := bind_inv h
      refine rt_forF (fun x ρ s d s' h => ?_) xs h
      obtain ⟨ρ', _, h⟩ := bind_inv h
      exact hb h
    · cases h
  | while_ c b hb => intro ρ s s' d h; exact rt_whF (fun ρ s d s' h => hb h) _ h
  | ret m e =>
    intro ρ s s' d h; obtain ⟨q, e1, h⟩ := bind_inv h
    split at h
    · cases h
    · cases h; exact ⟨_, rfl⟩
    · cases h
  | reto i =>
    intro ρ s s' d h
    simp only [exec] at h
    split at h
    · cases h; exact ⟨_, rfl⟩
    · cases h
  | brk => intro ρ s s' d h; cases h
  | cont => intro ρ s s' d h; cases h
  | never => intro ρ s s' d h; cases h
  | raise_ e =>
    intro ρ s s' d h; obtain ⟨q, e1, h⟩ := bind_inv h
    split at h <;> cases h
theorem runF_fr {f : Fn} (hf : f.fr = true) {xs : List D} {s s' : Ss} {d : D} (h : runF P f xs s = some (d, s')) : ∃ ds, d = .lst ds := by
  unfold runF at h
  split at h
  · split at h
    · rename_i b d' s2 e
      split at h
      · rename_i hb
        cases h
        rw [hf] at hb
        subst hb
        exact exec_rt _ e
      · cases h
    · cases h
    · cases h
  · cases h
end
/-! ### calls by level -/
/-- no promise, kept by any def -/
theorem fnOk_none {P : Program} {w : World} {K : PySem.W.Frag} {mg : Str → Option Value} {base : Heap} {CX : CXT} {k : Nat} {f : Addr} {fd : FuncData} {ps : List Str} {sp : Sp} (h : ∀ vs H Q E, ¬ sp vs H Q E) : FnOk P w K mg base CX k f fd ps sp :=
  ⟨fun vs H Q E q => absurd q (h vs H Q E), fun A outer s H args us vs Q E _ _ _ _ q => absurd q (h vs H Q E)⟩
theorem spD_none {C : Cn} {fr : Bool} : ∀ vs H Q E, ¬ spD C (fun _ _ => none) fr vs H Q E := fun vs H Q E ⟨θ, B, Γ, s, ds, d, s', W, r, e, _⟩ => nomatch e
/-- a def of the text: where it stands, that it keeps its promise, how it is called -/
structure Cal (P : Program) (w : World) (K : PySem.W.Frag) (mg : Str → Option Value) (base : Heap) (k : Nat) (x : Str) (ps : List Str) (sp : Sp) : Prop where
  ex : ∃ (f : Addr) (fd : FuncData), FnOk P w K mg base CX0 k f fd ps sp ∧ mg x = some (.ref f) ∧ PySem.W.keepIn K (.ref f) = true ∧ Binds K fd ps []
section
variable {X : Cx} {k : Nat} {x : Str} {ps : List Str} {sp : Sp} {p pos : Pos} {e : Expr} {es : List Expr} {t : TA}
theorem qc (c : Cal X.prog X.w X.K X.mg X.base k x ps sp) (hr : Room k X.A) (hg : Gl X x) (ha : PA X (e :: es) t)
    (hdb : (x == ("__debug__" : Str)) = false := by decide) (he : starEach (e :: es) X.env = (false, eval e X.env) :: starEach es X.env := by rfl) (hpl : (backTo pos (starEach es X.env)).any (·.1) = false := by rfl) :
    PE X (.Call (.Name x p) (e :: es) [] pos) (tCall sp [] E0 t) := by
  obtain ⟨f, fd, F, hm, kp, b⟩ := c.ex
  exact pe_call F hr hg hm kp b .nil pass0 ha hdb he hpl
end
end DL
set_option Elab.async false
set_option linter.all false
set_option maxRecDepth 100000
set_option maxHeartbeats 1000000
/-! An own class of errors whose __init__ stores one value. -/
namespace DL
open PySem PySem.Spec PyProof.Rows L2
/-- what the written part says of the class -/
structure ExT (K : PySem.W.Frag) (mg : Str → Option Value) (x fld : Str) (C fI : Addr) : Prop where
  o : OexC K C
  iC : PySem.W.findIn K (.ref C) "__init__" = some (some (.ref fI))
  tI : PySem.W.typeIn K (.ref fI) = some (.type "function")
  xf : XfC K C
  no : PySem.W.findIn K (.ref C) fld = some none
  gC : mg x = some (.ref C)
  te : PySem.W.exmOne K (.ref C) (.ref C) = some true
def spIni (C : Addr) (fld : Str) : Sp := fun vs H Q _ => ∃ a v, vs = [.ref a, v] ∧ H a = some (exo a C none) ∧ ∀ dx, H dx = none → dx ≠ a → Q .non (upd (upd H dx (exd dx [(fld, v)])) a (exo a C (some dx)))
structure ExP (P : Program) (w : World) (K : PySem.W.Frag) (mg : Str → Option Value) (base : Heap) (x fld : Str) (C : Addr) : Prop where
  ex : ∃ (fI : Addr) (fd : FuncData) (ps : List Str), ExT K mg x fld C fI ∧ FnOk P w K mg base CX0 1 fI fd ps (spIni C fld) ∧ Binds K fd ps []
def wish (fld : Str) (C : Addr) : XK → VK := fun E v H => ∀ d, H d = none → E (.ref C) (some d) (upd H d (.xd [(fld, v)]))
section
variable {X : Cx} {x fld : Str} {C : Addr} {E : XK} {e : Expr} {te : TE} {p pos pos2 : Pos}
theorem pe_mono (h : PE X e te) : PE X e (fun σ H Q => ∃ Q0 : VK, te σ H Q0 ∧ ∀ v H1, Q0 v H1 → Q v H1) :=
  ⟨fun pins s σ H Q I ⟨Q0, q, m⟩ => thn (h.run pins s σ H Q0 I q) fun u s1 ⟨v, H1, I1, r1, q1⟩ => ⟨v, H1, I1, r1, m v H1 q1⟩⟩
theorem upd_del {H1 : Hp} {a dx : Addr} {o : HO} (n : H1 a = none) (ne : dx ≠ a) (o1 o2 : HO) : upd (del (upd (upd H1 dx o1) a o2) a) dx o = upd H1 dx o := by
  funext b
  by_cases hb : b = dx
  · subst hb; rw [upd_same, upd_same]
  · rw [upd_ne hb, upd_ne hb]
    by_cases ha : b = a
    · subst ha; rw [del_same, n]
    · rw [del_ne ha, upd_ne ha, upd_ne hb]
theorem upd_dbl {H1 : Hp} {a : Addr} {o o2 : HO} : upd (upd H1 a o) a o2 = upd H1 a o2 := by
  funext b
  by_cases hb : b = a
  · subst hb; rw [upd_same, upd_same]
  · rw [upd_ne hb, upd_ne hb, upd_ne hb]
theorem upd_comm' {H1 : Hp} {a b : Addr} {o o2 : HO} (ne : b ≠ a) : upd (upd H1 a o) b o2 = upd (upd H1 b o2) a o := by
  funext c
  by_cases hb : c = b
  · subst hb; rw [upd_same, upd_ne ne, upd_same]
  · by_cases ha : c = a
    · subst ha; rw [upd_ne hb, upd_same, upd_same]
    · rw [upd_ne hb, upd_ne ha, upd_ne ha, upd_ne hb]
theorem qraise (hc : X.calm = true) (tk : Takes X (fun cls d _ H => E cls d H)) (Y : ExP X.prog X.w X.K X.mg X.base x fld C) (hr : Room 2 X.A) (hg : Gl X x) (he : PE X e te)
    (hdb : (x == ("__debug__" : Str)) = false := by decide) (hs : starEach (e :: []) X.env = (false, eval e X.env) :: starEach [] X.env := by rfl) (hpl : (backTo pos (starEach [] X.env)).any (·.1) = false := by rfl) :
    PS X (.Raise (some (.Call (.Name x p) [e] [] pos)) none pos2) (fun _ σ H => te σ H (wish fld C E)) := by
  obtain ⟨fI, fd, ps, T, F1, hb⟩ := Y.ex
  have key : PS X (.Raise (some (.Call (.Name x p) [e] [] pos)) none pos2) (fun _ σ H => tMkO C (spIni C fld) [] (tCons (fun σ H Q => ∃ Q0 : VK, te σ H Q0 ∧ ∀ v H1, Q0 v H1 → Q v H1) tNil) σ H fun cls d H' => E cls d H') :=
    ps_raise (pos := pos2) hc tk (pmk_oex T.o T.iC T.tI F1 hr hb .nil (fun _ _ _ _ _ _ _ h => h.elim) hg T.gC (pa_cons (pe_mono he) pa_nil hs) hdb hs hpl)
  refine ⟨fun pins s σ H D I q => key.run pins s σ H D I ?_⟩
  refine ⟨wish fld C E, q, fun v H1 z => ?_⟩
  refine ⟨by simp, fun a ha => ⟨a, v, rfl, upd_same, fun dx hn ne => ⟨rfl, dx, [(fld, v)], upd_same, ?_, ?_, ?_⟩⟩⟩
  · rw [upd_ne ne, upd_same]
  · rwa [upd_ne ne] at hn
  · have hn' : H1 dx = none := by rwa [upd_ne ne] at hn
    have e1 : upd (del (upd (upd (upd H1 a (exo a C none)) dx (exd dx [(fld, v)])) a (exo a C (some dx))) a) dx (.xd [(fld, v)]) = upd H1 dx (.xd [(fld, v)]) := by
      rw [upd_comm' ne, upd_dbl, upd_del ha ne]
    rw [e1]
    exact z dx hn'
end
/-- its __init__, one statement -/
theorem spIni_len {C : Addr} {fld : Str} {vs : List V} {H : Hp} {Q : VK} {E : XK} (q : spIni C fld vs H Q E) : vs.length = 2 := by
  obtain ⟨a, v, e, _⟩ := q
  rw [e]; rfl
end DL
set_option Elab.async false
set_option linter.all false
set_option maxRecDepth 100000
set_option maxHeartbeats 1000000
/-! zip of a text and a list; a def that may raise, called. -/
namespace DL
open PySem PySem.Spec PyProof.Rows L2
/-- the turns -/
def ItzS (K : PySem.W.Frag) (z : Str) (b : Addr) : It :=
  ⟨fun i H => ∃ (c : Nat) (ys : List V) (y : V), SqL K H b ys ∧ z.cps.toList[i]? = some c ∧ ys[i]? = some y,
    fun i H v H' => ∃ T c y, v = .ref T ∧ H T = none ∧ H' = upd H T (.tup [.str ⟨#[c]⟩, y]) ∧ z.cps.toList[i]? = some c ∧ ∀ ys, SqL K H b ys → ys[i]? = some y,
    fun i H => ∃ ys : List V, SqL K H b ys ∧ i ≤ ys.length ∧ (z.cps.toList.length ≤ i ∨ ys.length ≤ i)⟩
def zsSt (x : Str) (t : Tok) (b zz TI TO i1 i2 : Addr) (i : Nat) (h : Heap) : Prop :=
  IsZip h zz TI TO .none ∧ IsTupOf2 h TI (.ref i1) (.ref i2) ∧ (∃ a c, IsTupOf2 h TO a c) ∧ h.IsStrIter i1 (strIterType x) x t i ∧ h.IsListIter i2 b i ∧ i ≤ x.cps.size
theorem turn_zipS {P : Program} {w : World} {K : PySem.W.Frag} {elts : List Expr} {kk : Nat} {tpos : Pos} {b zz TI TO i1 i2 : Addr} {x : Str} {t : Tok} (D : ZipSep2 zz TI TO i1 i2 [i1] [i2, b]) (hb : b ≠ i2) :
    Turn P w K (.Tuple elts kk tpos) (ItzS K x b) [zz, TI, TO, i1, i2] zz (zsSt x t b zz TI TO i1 i2) where
  mem := by simp
  obj := fun i h st c hc => by
    obtain ⟨hz, hTI, ⟨_, _, hTO⟩, ⟨o1, e1, _, d1⟩, ⟨o2, e2, _, d2⟩, _⟩ := st
    have e' : c = zz ∨ c = TI ∨ c = TO ∨ c = i1 ∨ c = i2 := by simpa using hc
    rcases e' with q | q | q | q | q <;> rw [q]
    · exact ⟨_, hz, fun v q => nomatch q⟩
    · exact ⟨_, hTI, fun v q => nomatch q⟩
    · exact ⟨_, hTO, fun v q => nomatch q⟩
    · exact ⟨o1, e1, fun v q => by rw [d1] at q; cases q⟩
    · exact ⟨o2, e2, fun v q => by rw [d2] at q; cases q⟩
  keep := fun i h h' st k => by
    obtain ⟨hz, hTI, ⟨a, c, hTO⟩, ⟨o1, e1, r1⟩, h2, hl⟩ := st
    exact ⟨k zz (by simp) _ hz, k TI (by simp) _ hTI, ⟨a, c, k TO (by simp) _ hTO⟩, ⟨o1, k i1 (by simp) o1 e1, r1⟩, h2.at fun o q => k i2 (by simp) o q, hl⟩
  item := by
    intro X hP hw hK hc i pins s σ H E I hf st hg
    subst hP hw hK
    obtain ⟨hz, hTI, ⟨a0, c0, hTO⟩, h1, h2, hle⟩ := st
    obtain ⟨c, ys, y, hqy, hx, hy⟩ := hg
    obtain ⟨its2, rv2, p2, _⟩ := I.list hqy
    obtain ⟨u2, hu2, ru2⟩ := rv2.get hy
    have hzl : zz < s.heap.objs.size := Heap.lt_size hz
    have hx' : x.cps[i]? = some c := by simpa using hx
    have l1 : i < x.cps.size := by
      rcases Nat.lt_or_ge i x.cps.size with q | q
      · exact q
      · rw [Array.getElem?_eq_none q] at hx'; cases hx'
    have hu2' : its2.toArray[i]? = some u2 := by simpa using hu2
    have l2 : i < its2.toArray.size := by
      rcases Nat.lt_or_ge i its2.toArray.size with q | q
      · exact q
      · rw [Array.getElem?_eq_none q] at hu2'; cases hu2'
    have hh : X.A.in1.handled = none := I.ok.hd hc
    refine wpAny_pyNext_zipD2_item D (Draws.text hh i1 x t) (Draws.list hh i2 b hb its2.toArray) hz hTI hTO h1 ⟨h2, p2.isList⟩ l1 l2 fun x1 x2 h' tk q1 q2 z' TO' h1' h2' hT hsz hk => ?_
    obtain ⟨c', u', ec, rfl⟩ := q1
    rw [hx'] at ec
    cases ec
    have q2 : its2.toArray[i]? = some x2 := q2
    rw [hu2'] at q2
    cases q2
    refine ⟨_, rfl, wpAny_letOwnedTupleGo_zip (s := { s with heap := h', toks := tk }) z' fun h'' z'' sb => ?_⟩
    have hT2 : h''.get? s.heap.objs.size = some { cls := .type "tuple", data := .seq #[.str ⟨#[c]⟩ u', u2] } := (sb.2 _ (Nat.ne_of_gt hzl)).trans hT
    have new : ObjOk X.prog X.w (upd H s.heap.objs.size (.tup [.str ⟨#[c]⟩, y])) h'' s.heap.objs.size (.tup [.str ⟨#[c]⟩, y]) :=
      ⟨by show 2 ≤ sizeLine; decide, [.str ⟨#[c]⟩ u', u2], .cons ⟨_, rfl⟩ (.cons ru2 .nil), ⟨_, hT2, rfl, _, rfl⟩⟩
    have J : Inv X pins σ (upd H s.heap.objs.size (.tup [.str ⟨#[c]⟩, y])) { s with heap := h'', toks := tk } :=
      I.turnedNew (t' := tk) (ch := [zz, TI, TO, i1, i2]) (fun d o hb q => (sb.2 d (fun q' => hb (by simp [q']))).trans (hk d o (fun q' => hb (by simp [q'])) (fun q' => hb (by simp [q'])) (fun q' => hb (by simp [q'])) (fun q' => hb (by simp [q'])) q)) hf (Nat.le_refl _) new
    refine ⟨.ref s.heap.objs.size, _, J, rfl, ⟨_, c, y, rfl, I.hok.fresh (Nat.le_refl _), rfl, hx, fun l hl => by rw [I.list_inj hl hqy]; exact hy⟩, ⟨z'', ?_, ⟨.str ⟨#[c]⟩ u', u2, ?_⟩, ?_, ?_, l1⟩, fun d hcm => ?_⟩
    · exact (sb.2 _ D.TIz).trans (hk _ _ D.TIz D.TITO D.TIi1 D.TIi2 hTI)
    · exact (sb.2 _ D.TOz).trans TO'
    · obtain ⟨o1, e1, r1⟩ := h1'
      exact ⟨o1, (sb.2 _ (Ne.symm D.zi1)).trans e1, r1⟩
    · exact h2'.1.at fun o q => (sb.2 _ (Ne.symm D.zi2)).trans q
    · have hlt : d < s.heap.objs.size := by
        have e' : d = zz ∨ d = TI ∨ d = TO ∨ d = i1 ∨ d = i2 := by simpa using hcm
        rcases e' with q | q | q | q | q <;> rw [q]
        · exact hzl
        · exact Heap.lt_size hTI
        · exact Heap.lt_size hTO
        · obtain ⟨_, e1, _⟩ := h1; exact Heap.lt_size e1
        · obtain ⟨_, e2, _⟩ := h2; exact Heap.lt_size e2
      rw [upd_ne (Nat.ne_of_lt hlt)]
      exact (hf d hcm).1
  done := by
    intro X hP hw hK hc i pins s σ H E I hf st hg
    subst hP hw hK
    obtain ⟨hz, hTI, ⟨a0, c0, hTO⟩, h1, h2, hle⟩ := st
    obtain ⟨ys, hqy, hly, hend⟩ := hg
    obtain ⟨its2, rv2, p2, _⟩ := I.list hqy
    have hh : X.A.in1.handled = none := I.ok.hd hc
    have l2 := rv2.length
    have hs : its2.toArray.size = ys.length := by rw [List.size_toArray, l2]
    have hend' : i = x.cps.size ∨ i = its2.toArray.size := by
      rw [hs]
      rw [Array.length_toList] at hend
      omega
    exact wpAny_pyNext_zipD2_end D (Draws.text hh i1 x t) (Draws.list hh i2 b hb its2.toArray) hz hTI hTO h1 ⟨h2, p2.isList⟩ hle (by omega) hend' fun h' tk hk => ⟨rfl, I.turnedL (t' := tk) (ch := [zz, TI, TO, i1, i2]) (fun d o hb q =>
      hk d o (fun q' => hb (by simp [q'])) (fun q' => hb (by simp [q'])) (fun q' => hb (by simp [q'])) (fun q' => hb (by simp [q'])) q) hf⟩
  self := fun A i s Q E st h => wpAny_pyIter_zip st.1 h
theorem nin1 {a c : Addr} (h : a ≠ c) : a ∉ [c] := fun m => h (List.mem_singleton.mp m)
theorem nin2 {a c d : Addr} (h : a ≠ c) (g : a ≠ d) : a ∉ [c, d] := fun m => by
  rcases List.mem_cons.mp m with q | q
  · exact h q
  · exact g (List.mem_singleton.mp q)
theorem sepZ (I b : Nat) (h : b < I) : ZipSep2 (I + 4) (I + 2) (I + 3) I (I + 1) [I] [I + 1, b] where
  TIz := PySem.W.neN (by omega)
  TOz := PySem.W.neN (by omega)
  TITO := PySem.W.neN (by omega)
  TIi1 := PySem.W.neN (by omega)
  mem1 := List.mem_cons_self
  zf1 := nin1 (PySem.W.neN (by omega))
  Tf1 := nin1 (PySem.W.neN (by omega))
  TIi2 := PySem.W.neN (by omega)
  mem2 := List.mem_cons_self
  zf2 := nin2 (PySem.W.neN (by omega)) (PySem.W.neN (by omega))
  Tf2 := nin2 (PySem.W.neN (by omega)) (PySem.W.neN (by omega))
  sep1_2 := nin2 (PySem.W.neN (by omega)) (PySem.W.neN (by omega))
  sep2_1 := nin1 (PySem.W.neN (by omega))
theorem pi_zipS {X : Cx} {e e2 : Expr} {ta : TA} {p pos tpos : Pos} {elts : List Expr} {kk : Nat} (hg : Gl X "zip") (hm : X.mg "zip" = none) (ha : PA X [e, e2] ta)
    (hs : starEach [e, e2] X.env = (false, eval e X.env) :: starEach [e2] X.env := by rfl) (hpl : (backTo pos (starEach [e2] X.env)).any (·.1) = false := by rfl) :
    PI X (.Tuple elts kk tpos) (.Call (.Name "zip" p) [e, e2] [] pos) (iZipS X.K ta) := by
  refine ⟨fun pins s σ H R I h => ?_⟩
  refine Call_ (ld_blt I hg hm PyProof.Rows.boot_zip (PyProof.Rows.callWith_type1 (thn (ha.run pos pins s σ H _ I h) fun us s1 ⟨vs, H1, I1, r1, q1⟩ => ?_) hs hpl))
  obtain ⟨x, b, ys, ex, hqy, q⟩ := q1
  subst ex
  obtain ⟨u1, ur, rfl, rx, rr⟩ : ∃ u1 ur, us = u1 :: ur ∧ RelV (.str x) u1 ∧ Vals [.ref b] ur := by cases r1 with | cons r rr => exact ⟨_, _, rfl, r, rr⟩
  obtain ⟨t, rfl⟩ := rx
  obtain ⟨u2, rfl, r2⟩ := vals1 rr
  cases r2
  obtain ⟨its2, rv2, p2, _⟩ := I1.list hqy
  have lb : b < s1.heap.objs.size := p2.lt
  refine zip_begins2 (begins_text x t) (begins_list b its2.toArray) trivial p2.isList fun h' hz hTI hTO g1 g2 hsz hk => wpAny_pyIter_zip hz ?_
  have I2 : Inv X pins σ H1 { s1 with heap := h' } := I1.kept (t' := s1.toks) hk
  refine ⟨s1.heap.objs.size + 4, [s1.heap.objs.size + 4, s1.heap.objs.size + 2, s1.heap.objs.size + 3, s1.heap.objs.size, s1.heap.objs.size + 1], _, _, H1, rfl, I2, turn_zipS (x := x) (t := t) (sepZ _ _ lb) (Nat.ne_of_lt (Nat.lt_succ_of_lt lb)), ⟨hz, hTI, ⟨_, _, hTO⟩, ⟨_, g1, rfl, rfl⟩, ⟨_, g2, rfl, rfl⟩, Nat.zero_le _⟩, fun c hcm => ?_, q⟩
  have hle : s1.heap.objs.size ≤ c := by
    have e' : c = s1.heap.objs.size + 4 ∨ c = s1.heap.objs.size + 2 ∨ c = s1.heap.objs.size + 3 ∨ c = s1.heap.objs.size ∨ c = s1.heap.objs.size + 1 := by simpa using hcm
    rcases e' with z | z | z | z | z <;> rw [z]
    all_goals first | exact Nat.le_add_right _ _ | exact Nat.le_refl _
  exact I1.fpOk hle (I1.hok.fresh hle)
/-! ### a def that may raise -/
def okX (φ : List D → Ss → Option ((D ⊕ D) × Ss)) : List D → Ss → Option (D × Ss) := fun ds s => match φ ds s with
  | some (.inl d, s') => some (d, s')
  | _ => none
theorem spX_len {C : Cn} {φ : List D → Ss → Option ((D ⊕ D) × Ss)} {W : XK → VK} {n : Nat} (h : ∀ ds s r, φ ds s = some r → ds.length = n) {vs : List V} {H : Hp} {Q : VK} {E : XK} (q : spX C φ W vs H Q E) : vs.length = n := by
  obtain ⟨θ, B, Γ, s, ds, d, s', W, r, e, _⟩ := q
  rw [r.length, h _ _ _ e]
theorem runX_len {P : Par} {f : Fn} {ds : List D} {s : Ss} {r : (D ⊕ D) × Ss} (h : runX P f ds s = some r) : ds.length = f.np := by
  unfold runX at h
  split at h
  · assumption
  · cases h
theorem spX_ok {C : Cn} {φ : List D → Ss → Option ((D ⊕ D) × Ss)} {W : XK → VK} {vs : List V} {H : Hp} {Q : VK} {E E' : XK} (q : spD C (okX φ) false vs H Q E) : spX C φ W vs H Q E' := by
  obtain ⟨θ, B, Γ, s, ds, d, s', W0, r, e, p⟩ := q
  unfold okX at e
  split at e
  · rename_i d' s2 e2
    cases e
    exact ⟨θ, B, Γ, s, ds, .inl d, s', W0, r, e2, p⟩
  · cases e
structure CalX (P : Program) (w : World) (K : PySem.W.Frag) (mg : Str → Option Value) (base : Heap) (k : Nat) (x : Str) (ps : List Str) (sp : Sp) : Prop where
  ex : ∃ (f : Addr) (fd : FuncData), FnOk P w K mg base (L2.CX P w) k f fd ps sp ∧ mg x = some (.ref f) ∧ PySem.W.keepIn K (.ref f) = true ∧ Binds K fd ps []
theorem calX_none {C : Cn} {W : XK → VK} : ∀ vs H Q E, ¬ spX C (fun _ _ => none) W vs H Q E := fun vs H Q E ⟨θ, B, Γ, s, ds, d, s', W, r, e, _⟩ => nomatch e
section
variable {X : Cx} {k : Nat} {x : Str} {ps : List Str} {p pos : Pos} {e : Expr} {es : List Expr} {t : TA} {C : Cn} {φ : List D → Ss → Option ((D ⊕ D) × Ss)} {W : XK → VK}
/-- a call that does not raise -/
theorem qcx {φ' : List D → Ss → Option (D × Ss)} (eφ : okX φ = φ') (c : CalX X.prog X.w X.K X.mg X.base k x ps (spX C φ W)) (hr : Room k X.A) (hg : Gl X x) (ha : PA X (e :: es) t)
    (hdb : (x == ("__debug__" : Str)) = false := by decide) (he : starEach (e :: es) X.env = (false, eval e X.env) :: starEach es X.env := by rfl) (hpl : (backTo pos (starEach es X.env)).any (·.1) = false := by rfl) :
    PE X (.Call (.Name x p) (e :: es) [] pos) (tCall (spD C φ' false) [] E0 t) := by
  subst eφ
  obtain ⟨f, fd, F, hm, kp, b⟩ := c.ex
  refine pe_call (F.imp (sp' := spD C (okX φ) false) fun vs H Q E q => spX_ok q) hr hg hm kp b .nil ?_ ha hdb he hpl
  intro pins σ H s e s' I h
  obtain ⟨a, B, H', cls, d, h1, h2, h3, h4, h5, h6, h7, h8⟩ := h
  exact h8.elim
/-- a call that may raise, in a try -/
theorem qcxS {Wx : WX} (c : CalX X.prog X.w X.K X.mg X.base k x ps (spX C φ W)) (tk : Takes X Wx) (hr : Room k X.A) (hg : Gl X x) (ha : PA X (e :: es) t)
    (hdb : (x == ("__debug__" : Str)) = false := by decide) (he : starEach (e :: es) X.env = (false, eval e X.env) :: starEach es X.env := by rfl) (hpl : (backTo pos (starEach es X.env)).any (·.1) = false := by rfl) :
    PE X (.Call (.Name x p) (e :: es) [] pos) (tCallS (spX C φ W) (WE Wx) t) := by
  obtain ⟨f, fd, F, hm, kp, b⟩ := c.ex
  exact pe_callS F hr hg hm kp b (fun σ => passAt tk σ) ha hdb he hpl
end
end DL
set_option Elab.async false
set_option linter.all false
set_option maxRecDepth 100000
set_option maxHeartbeats 1000000
/-! Facts of the top: tables, the class of errors. -/
namespace DL
open PySem PySem.Spec PyProof.Rows L2
def relDB : D → Value → Bool
  | .str l, .str x _ => decide (x.cps.toList = l)
  | .int i, .int j _ => decide (i = j)
  | _, _ => false
theorem relDB_ok {d : D} {u : Value} (h : relDB d u = true) : ∃ v, RelV v u ∧ ∀ C θ Γ, Rep C θ Γ v d := by
  unfold relDB at h
  split at h
  · rename_i l x t
    exact ⟨.str x, ⟨t, rfl⟩, fun C θ Γ => .str x (of_decide_eq_true h)⟩
  · rename_i i j t
    have e : i = j := of_decide_eq_true h
    subst e
    exact ⟨.int i, ⟨t, rfl⟩, fun C θ Γ => .int i⟩
  · cases h
def relKV : List DictEntry → List (List Nat × D) → Bool
  | [], [] => true
  | e :: r, q :: r' => (match e.key with
    | .str x _ => decide (x.cps.toList = q.1)
    | _ => false) && (relDB q.2 e.val && relKV r r')
  | _, _ => false
def tabB (K : PySem.W.Frag) (a : Addr) (t : List (List Nat × D)) : Bool := match K.lookup a with
  | some ⟨_, _, .dict es _, _⟩ => relKV es.toList t
  | _ => false
theorem str_ext {x z : Str} (h : x.cps.toList = z.cps.toList) : x = z := by
  obtain ⟨x⟩ := x
  obtain ⟨z⟩ := z
  have h : x.toList = z.toList := h
  rw [Array.toList_inj.mp h]
theorem relKV_ok (z : Str) : ∀ {es : List DictEntry} {t : List (List Nat × D)}, relKV es t = true →
    (∀ d, tget t z.cps.toList = some d → ∃ e v, es.find? (·.key.isStr z) = some e ∧ RelV v e.val ∧ ∀ C θ Γ, Rep C θ Γ v d) ∧ (tget t z.cps.toList = none → es.find? (·.key.isStr z) = none) ∧ es.any (·.refKey) = false
  | [], [], _ => ⟨fun d h => (by cases h), fun _ => rfl, rfl⟩
  | [], _ :: _, h => by cases h
  | _ :: _, [], h => by cases h
  | e :: r, q :: r', h => by
    obtain ⟨h1, h2⟩ := Bool.and_eq_true_iff.mp h
    obtain ⟨h2, h3⟩ := Bool.and_eq_true_iff.mp h2
    obtain ⟨i1, i2, i3⟩ := relKV_ok z h3
    split at h1
    · rename_i x tk ek
      have e1 : x.cps.toList = q.1 := of_decide_eq_true h1
      have hs : e.key.isStr z = decide (x = z) := by rw [ek]; rfl
      have hr : e.refKey = false := by unfold DictEntry.refKey; rw [ek]
      by_cases hz : x = z
      · subst hz
        obtain ⟨v, hv, rv⟩ := relDB_ok h2
        refine ⟨fun d hd => ⟨e, v, ?_, hv, ?_⟩, fun hn => ?_, ?_⟩
        · rw [List.find?_cons, hs]; simp
        · unfold tget at hd
          rw [List.find?_cons, ← e1] at hd
          simp at hd
          subst hd
          exact rv
        · unfold tget at hn
          rw [List.find?_cons, ← e1] at hn
          simp at hn
        · rw [List.any_cons, hr, i3]; rfl
      · have hne : ¬ (q.1 = z.cps.toList) := fun y => hz (str_ext (e1.trans y))
        have et : tget (q :: r') z.cps.toList = tget r' z.cps.toList := by
          unfold tget
          rw [List.find?_cons]
          simp [hne]
        have ef : (e :: r).find? (·.key.isStr z) = r.find? (·.key.isStr z) := by
          rw [List.find?_cons, hs]
          simp [hz]
        rw [et, ef]
        exact ⟨i1, i2, by rw [List.any_cons, hr, i3]; rfl⟩
    · cases h1
theorem tab_ok {K : PySem.W.Frag} {w : World} {a : Addr} {es : Array DictEntry} {n : Nat} {t : List (List Nat × D)} (k : KDict K w a es n) (h : tabB K a t = true) (z : Str) :
    (∀ d, tget t z.cps.toList = some d → ∃ v, KDct K w a z v ∧ ∀ C θ Γ, Rep C θ Γ v d) ∧ ∃ r, PySem.W.nsIn K a z = some r ∧ r.isSome = (tget t z.cps.toList).isSome := by
  unfold tabB at h
  rw [k.at_] at h
  obtain ⟨h1, h2, h3⟩ := relKV_ok z (show relKV es.toList t = true from h)
  have ns : PySem.W.nsIn K a z = match es.toList.find? (·.key.isStr z) with
      | some e => some (some e.val)
      | none => if es.toList.any (·.refKey) then none else some none := by
    unfold PySem.W.nsIn
    rw [k.at_] <;> rfl
  constructor
  · intro d hd
    obtain ⟨e, v, q1, q2, q3⟩ := h1 d hd
    exact ⟨v, ⟨es, n, e.val, k.at_, k.lit, by rw [ns, q1], q2⟩, q3⟩
  · cases hd : tget t z.cps.toList with
    | none => exact ⟨none, by rw [ns, h2 hd, h3]; rfl, rfl⟩
    | some d =>
      obtain ⟨e, v, q1, q2, q3⟩ := h1 d hd
      exact ⟨some e.val, by rw [ns, q1], rfl⟩
/-! ### the class -/
def clsB (K : PySem.W.Frag) (C : Addr) : Bool := match K.lookup C with
  | some ⟨.type "type", _, .cls cd, sl⟩ => (match cd.mro, sl.toList with
    | .ref C' :: bm, [_, _, _, _, some (.builtin n), _] => C' == C && (n == "ValueError.__new__" && (!cd.hasDel && (cd.hasDict && PySem.HandSPX.refsVE bm)))
    | _, _ => false)
  | _ => false
def exB (K : PySem.W.Frag) (x fld : Str) : Bool :=
  let C := He.ga K x
  let fI := He.fAd K (x, some "__init__")
  clsB K C && (decide (PySem.W.findIn K (.ref C) "__setattr__" = some (some (.builtin "object.__setattr__"))) && (decide (PySem.W.subIn K (.ref C) (.type "BaseException") = some true) && (decide (PySem.W.typeIn K (.ref C) = some (.type "type")) && (PySem.W.keepIn K (.ref C) &&
  (decide (PySem.W.findIn K (.ref C) "__init__" = some (some (.ref fI))) && (decide (PySem.W.typeIn K (.ref fI) = some (.type "function")) && (xfB K C && (decide (PySem.W.findIn K (.ref C) fld = some none) && (decide (PySem.W.exmOne K (.ref C) (.ref C) = some true) &&
   decide (PySem.W.nsIn K mainGlobals x = some (some (.ref C))))))))))))
theorem clsB_ok {K : PySem.W.Frag} {C : Addr} (q : clsB K C = true) : ∃ nm q N bs bm sn sub ab col dd k0 k1 k2 k3 k5, K.lookup C = some (excClassObj nm q C N bs bm true sn sub ab col dd k0 k1 k2 k3 k5 "ValueError.__new__") ∧ PySem.HandSPX.refsVE bm = true := by
  unfold clsB at q
  split at q
  · rename_i dd cd sl ho
    split at q
    · rename_i C' bm k0 k1 k2 k3 n k5 hm hs
      simp only [Bool.and_eq_true, beq_iff_eq, Bool.not_eq_true'] at q
      obtain ⟨rfl, rfl, hdel, hdi, ht⟩ := q
      obtain ⟨nm, bs, mro, ns, qn, hd, sn, sub, ab, col, del⟩ := cd
      dsimp only at hm hdel hdi
      subst hm hdel hdi
      have hsl : sl = #[k0, k1, k2, k3, some (.builtin "ValueError.__new__"), k5] := by
        obtain ⟨l⟩ := sl
        simp only at hs
        rw [hs]
      subst hsl
      exact ⟨nm, qn, ns, bs, bm, sn, sub, ab, col, dd, k0, k1, k2, k3, k5, ho, ht⟩
    · cases q
  · cases q
theorem exB_ok {K : PySem.W.Frag} {h : Heap} {mg : Str → Option Value} {x fld : Str} (X : K.In h) (G : h.Ns mainGlobals mg) (e : exB K x fld = true) : ExT K mg x fld (He.ga K x) (He.fAd K (x, some "__init__")) := by
  unfold exB at e
  simp only [Bool.and_eq_true, decide_eq_true_eq] at e
  obtain ⟨h1, h2, h3, h4, h5, h6, h7, h8, h9, h10, h11⟩ := e
  exact ⟨⟨clsB_ok h1, h2, h3, h4, h5⟩, h6, h7, xfB_ok h8, h9, PySem.W.mg_of X G h11, h10⟩
/-- the law's call -/
theorem wd_start {C : Cn} {H : Hp} : Wd C [] H H H [] := ⟨Same.refl _, Same.refl _, rfl, List.nodup_nil, fun a h => absurd h (List.not_mem_nil), fun i a c h => by simp at h⟩
theorem reps_ints {C : Cn} {θ : List Addr} {Γ : Hp} : ∀ ns : List Int, Reps C θ Γ (ns.map V.int) (ns.map D.int)
  | [] => .nil
  | n :: ns => .cons (.int n) (reps_ints ns)
theorem law_sp {C : Cn} {φ : List D → Ss → Option (D × Ss)} {ns : List Int} {H : Hp} {a : Addr} (h : ∃ s, φ [.lsk (ns.map .int)] [] = some (.bl true, s)) (hS : SqL C.K H a (ns.map V.int)) : spD C φ false [.ref a] H (fun v _ => v = .bl true) fun _ _ _ => False := by
  obtain ⟨s, h⟩ := h
  refine ⟨[], H, H, [], [.lsk (ns.map .int)], .bl true, s, wd_start, .cons (.lsk hS (reps_ints ns)) .nil, h, ?_⟩
  intro v θ' B' Γ' H' g r
  cases r
  rfl
end DL
set_option Elab.async false
set_option linter.all false
set_option maxRecDepth 100000
set_option maxHeartbeats 4000000
/-! The defs of the text as terms of DL (printed by gen.py). -/
namespace G
open PySem L2 DL
def s_DIGITS : List Nat := [48, 49, 50, 51, 52, 53, 54, 55, 56, 57]
def s_NAME_CHARACTERS : List Nat := [97, 98, 99, 100, 101, 102, 103, 104, 105, 106, 107, 108, 109, 110, 111, 112, 113, 114, 115, 116, 117, 118, 119, 120, 121, 122, 65, 66, 67, 68, 69, 70, 71, 72, 73, 74, 75, 76, 77, 78, 79, 80, 81, 82, 83, 84, 85, 86, 87, 88, 89, 90, 48, 49, 50, 51, 52, 53, 54, 55, 56, 57, 95]
def tab0 : List (List Nat × D) := [([112, 117, 115, 104], .str [110]), ([108, 111, 97, 100], .str [115]), ([115, 116, 111, 114, 101], .str [115]), ([97, 100, 100], .str []), ([115, 117, 98], .str []), ([109, 117, 108], .str []), ([108, 101, 115, 115], .str []), ([115, 97, 109, 101], .str []), ([106, 117, 109, 112], .str [103]), ([122, 101, 114, 111], .str [103]), ([101, 109, 105, 116], .str [101, 115]), ([119, 97, 105, 116], .str [101, 99]), ([105, 110, 112, 117, 116], .str [115]), ([114, 111, 117, 110, 100], .str [110, 103]), ([121, 101, 115], .str [110]), ([110, 111], .str [110]), ([116, 101, 115, 116], .str [119]), ([115, 116, 111, 112], .str [])]
def keyL : List Str := [("cells" : Str), ("at" : Str), ("left" : Str), ("seed" : Str), ("salt" : Str)]
abbrev Fn1 := List D → Ss → Option (D × Ss)
abbrev FnX := List D → Ss → Option ((D ⊕ D) × Ss)
/-- write_instruction: 0 instruction, 1 parts, 2 part, 3 label, 4 variable, 5 goal -/
def b0 : S := .seq (.asg 1 .fr (.lst (.cons (.idx (.var 0) (.int 0)) (.nil)))) (.seq (.for_ .tup (.slc .tup (.var 0) (.int 1) (.nop)) (.nm 2) (.ite (.bi (.isi 3) (.var 2)) (.for_ .tup (.var 2) (.tps [3, 4, 5]) (.ext 1 (.lst (.cons (.var 3) (.cons (.var 4) (.cons (.bi .str (.var 5)) (.nil))))))) (.app 1 .pk (.bi .str (.var 2))))) (.ret .pk (.bin .add (.me .join (.str [32]) (.cons (.var 1) (.nil))) (.str [10]))))
def f0 : Fn := ⟨1, 6, false, b0⟩
/-- write_code: 0 code, 1 instruction -/
def b1 : S := .ret .pk (.me .join (.str []) (.cons (.comp .tup (.var 0) (.nm 1) [1] (.nop) (.call 0 (.cons (.var 1) (.nil)))) (.nil)))
def f1 : Fn := ⟨1, 2, false, b1⟩
/-- is_name: 0 word, 1 char -/
def b2 : S := .ret .pk (.and_ (.cmp .ne (.var 0) (.str [])) (.bi .all (.comp .str (.var 0) (.nm 1) [1] (.nop) (.cmp .isin (.var 1) (.str s_NAME_CHARACTERS)))))
def f2 : Fn := ⟨1, 2, false, b2⟩
/-- number: 0 word, 1 value, 2 char -/
def b3 : S := .seq (.ite (.or_ (.cmp .eq (.var 0) (.str [])) (.or_ (.not_ (.bi .all (.comp .str (.var 0) (.nm 2) [2] (.nop) (.cmp .isin (.var 2) (.str s_DIGITS))))) (.or_ (.and_ (.cmp .eq (.idx (.var 0) (.int 0)) (.str [48])) (.cmp .ne (.var 0) (.str [48]))) (.cmp .gt (.bi .len (.var 0)) (.int 10))))) (.ret .pk (.non)) (.skip)) (.seq (.asg 1 .pk (.bi .int (.var 0))) (.ret .pk (.ite (.cmp .lt (.var 1) (.int 4294967296)) (.var 1) (.non))))
def f3 : Fn := ⟨1, 3, false, b3⟩
/-- read_choices: 0 words, 1 result, 2 at, 3 goal -/
def b4 : S := .seq (.ite (.or_ (.not_ (.var 0)) (.cmp .ne (.bin .mod (.bi .len (.var 0)) (.int 3)) (.int 0))) (.ret .pk (.non)) (.skip)) (.seq (.asg 1 .fr (.lst (.nil))) (.seq (.for_ .rng3 (.cons (.int 0) (.cons (.bi .len (.var 0)) (.cons (.int 3) (.nil)))) (.nm 2) (.seq (.asg 3 .pk (.call 3 (.cons (.idx (.var 0) (.bin .add (.var 2) (.int 2))) (.nil)))) (.seq (.ite (.or_ (.not_ (.call 2 (.cons (.idx (.var 0) (.var 2)) (.nil)))) (.or_ (.not_ (.call 2 (.cons (.idx (.var 0) (.bin .add (.var 2) (.int 1))) (.nil)))) (.cmp .isN (.var 3) (.non)))) (.ret .pk (.non)) (.skip)) (.app 1 .pk (.tup (.cons (.idx (.var 0) (.var 2)) (.cons (.idx (.var 0) (.bin .add (.var 2) (.int 1))) (.cons (.var 3) (.nil))))))))) (.ret .pk (.bi .tuple (.var 1)))))
def f4 : Fn := ⟨1, 4, false, b4⟩
/-- read_line: 0 line, 1 words, 2 shape, 3 choices, 4 result, 5 sort, 6 word, 7 part -/
def b5 : S := .seq (.asg 1 .st (.me .split (.var 0) (.cons (.str [32]) (.nil)))) (.seq (.ite (.kin 0 true (.idx (.var 1) (.int 0))) (.ret .pk (.non)) (.skip)) (.seq (.asg 2 .pk (.kget 0 (.idx (.var 1) (.int 0)))) (.seq (.ite (.cmp .eq (.idx (.var 1) (.int 0)) (.str [119, 97, 105, 116])) (.seq (.asg 3 .pk (.call 4 (.cons (.slc .lst (.var 1) (.int 2) (.nop)) (.nil)))) (.ret .pk (.ite (.and_ (.cmp .isnotN (.var 3) (.non)) (.call 2 (.cons (.idx (.var 1) (.int 1)) (.nil)))) (.tup (.cons (.str [119, 97, 105, 116]) (.cons (.idx (.var 1) (.int 1)) (.cons (.var 3) (.nil))))) (.non)))) (.skip)) (.seq (.ite (.cmp .ne (.bi .len (.var 1)) (.bin .add (.bi .len (.var 2)) (.int 1))) (.ret .pk (.non)) (.skip)) (.seq (.asg 4 .fr (.lst (.cons (.idx (.var 1) (.int 0)) (.nil)))) (.seq (.for_ .zip (.cons (.var 2) (.cons (.slc .lst (.var 1) (.int 1) (.nop)) (.nil))) (.tps [5, 6]) (.seq (.asg 7 .pk (.ite (.cmp .isin (.var 5) (.tup (.cons (.str [110]) (.cons (.str [103]) (.nil))))) (.call 3 (.cons (.var 6) (.nil))) (.var 6))) (.seq (.ite (.or_ (.cmp .isN (.var 7) (.non)) (.and_ (.cmp .notin (.var 5) (.tup (.cons (.str [110]) (.cons (.str [103]) (.nil))))) (.not_ (.call 2 (.cons (.var 6) (.nil)))))) (.ret .pk (.non)) (.skip)) (.seq (.ite (.and_ (.cmp .eq (.var 5) (.str [119])) (.cmp .notin (.var 6) (.tup (.cons (.str [121, 101, 115]) (.cons (.str [110, 111]) (.nil)))))) (.ret .pk (.non)) (.skip)) (.app 4 .pk (.var 7)))))) (.ret .pk (.bi .tuple (.var 4)))))))))
def f5 : Fn := ⟨1, 8, false, b5⟩
/-- read_code: 0 text, 1 result, 2 start, 3 end, 4 instruction -/
def b6 : S := .seq (.asg 1 .fr (.lst (.nil))) (.seq (.asg 2 .pk (.int 0)) (.seq (.while_ (.cmp .lt (.var 2) (.bi .len (.var 0))) (.seq (.asg 3 .pk (.me .find (.var 0) (.cons (.str [10]) (.cons (.var 2) (.nil))))) (.seq (.ite (.cmp .lt (.var 3) (.int 0)) (.raise_ (.bi .len (.var 0))) (.skip)) (.seq (.asg 4 .pk (.call 5 (.cons (.slc .str (.var 0) (.var 2) (.var 3)) (.nil)))) (.seq (.ite (.cmp .isN (.var 4) (.non)) (.raise_ (.var 2)) (.skip)) (.seq (.app 1 .pk (.var 4)) (.asg 2 .pk (.bin .add (.var 3) (.int 1))))))))) (.ret .pk (.bi .tuple (.var 1)))))
def f6 : Fn := ⟨1, 5, false, b6⟩
/-- _law_tape: 0 script, 1 cell, 2 cells, 3 seed -/
def b7 : S := .seq (.asg 2 .st (.comp .lst (.var 0) (.nm 1) [1] (.nop) (.bi .abs (.bi .int (.var 1))))) (.seq (.asg 3 .pk (.int 7)) (.seq (.for_ .lst (.var 2) (.nm 1) (.asg 3 .pk (.bin .mod (.bi .int (.bin .add (.bin .mul (.var 3) (.int 31)) (.var 1))) (.int 2147483647)))) (.ret .pk (.cel [0, 1, 2, 3, 4] (.cons (.var 2) (.cons (.int 0) (.cons (.int 0) (.cons (.var 3) (.cons (.int 0) (.nil))))))))))
def f7 : Fn := ⟨1, 4, false, b7⟩
/-- _law_take: 0 tape, 1 many, 2 drawn, 3 mixed -/
def b8 : S := .seq (.ite (.and_ (.cmp .eq (.dget (.var 0) 2) (.int 0)) (.cmp .lt (.dget (.var 0) 1) (.bi .len (.dget (.var 0) 0)))) (.seq (.dset (.var 0) 2 (.idx (.dget (.var 0) 0) (.dget (.var 0) 1))) (.dset (.var 0) 1 (.bin .add (.dget (.var 0) 1) (.int 1)))) (.skip)) (.seq (.ite (.cmp .gt (.dget (.var 0) 2) (.int 0)) (.seq (.asg 2 .pk (.bin .mod (.bi .int (.dget (.var 0) 2)) (.var 1))) (.seq (.dset (.var 0) 2 (.bin .fdiv (.dget (.var 0) 2) (.var 1))) (.ret .pk (.var 2)))) (.skip)) (.seq (.dset (.var 0) 4 (.bin .add (.dget (.var 0) 4) (.int 1))) (.seq (.asg 3 .pk (.bin .mod (.bi .int (.bin .add (.bin .mul (.dget (.var 0) 3) (.int 48271)) (.bin .mul (.dget (.var 0) 4) (.int 69621)))) (.int 2147483647))) (.seq (.asg 3 .pk (.bin .mod (.bi .int (.bin .add (.bin .add (.bin .mul (.var 3) (.var 3)) (.bin .mul (.dget (.var 0) 4) (.int 40692))) (.int 12345))) (.int 2147483399))) (.ret .pk (.bin .mod (.bi .int (.var 3)) (.var 1)))))))
def f8 : Fn := ⟨2, 4, false, b8⟩
/-- _law_is_integer: 0 actual -/
def b9 : S := .ret .pk (.and_ (.bi (.isi 0) (.var 0)) (.not_ (.bi (.isi 1) (.var 0))))
def f9 : Fn := ⟨1, 1, false, b9⟩
/-- _law_same_items: 0 actual, 1 expected, 2 k -/
def b10 : S := .seq (.ite (.cmp .ne (.bi .len (.var 0)) (.bi .len (.var 1))) (.ret .pk (.bl false)) (.skip)) (.seq (.for_ .rng1 (.cons (.bi .len (.var 1)) (.nil)) (.nm 2) (.ite (.not_ (.call 11 (.cons (.idx (.var 0) (.var 2)) (.cons (.idx (.var 1) (.var 2)) (.nil))))) (.ret .pk (.bl false)) (.skip))) (.ret .pk (.bl true)))
def f10 : Fn := ⟨2, 3, false, b10⟩
/-- _law_same: 0 actual, 1 expected, 2 key -/
def b11 : S := .seq (.ite (.cmp .isN (.var 1) (.non)) (.ret .pk (.cmp .isN (.var 0) (.non))) (.skip)) (.seq (.ite (.bi (.isi 1) (.var 1)) (.ret .pk (.and_ (.bi (.isi 1) (.var 0)) (.cmp .eq (.var 0) (.var 1)))) (.skip)) (.seq (.ite (.bi (.isi 0) (.var 1)) (.ret .pk (.and_ (.call 9 (.cons (.var 0) (.nil))) (.cmp .eq (.var 0) (.var 1)))) (.skip)) (.seq (.ite (.bi (.isi 2) (.var 1)) (.ret .pk (.and_ (.bi (.isi 2) (.var 0)) (.cmp .eq (.var 0) (.var 1)))) (.skip)) (.seq (.ite (.bi (.isi 3) (.var 1)) (.ret .pk (.and_ (.bi (.isi 3) (.var 0)) (.call 10 (.cons (.var 0) (.cons (.var 1) (.nil)))))) (.skip)) (.seq (.ite (.bi (.isi 4) (.var 1)) (.ret .pk (.and_ (.bi (.isi 4) (.var 0)) (.call 10 (.cons (.var 0) (.cons (.var 1) (.nil)))))) (.skip)) (.never))))))
def f11 : Fn := ⟨2, 3, false, b11⟩
/-- _law_instruction: 0 tape, 1 name, 2 goal, 3 choices, 4 menu, 5 k -/
def b12 : S := .seq (.asg 1 .pk (.idx (.lst (.cons (.str [110]) (.cons (.str [109, 95, 49]) (.cons (.str [84, 111, 116, 97, 108]) (.nil))))) (.call 8 (.cons (.var 0) (.cons (.int 3) (.nil)))))) (.seq (.asg 2 .pk (.idx (.lst (.cons (.int 0) (.cons (.int 7) (.cons (.int 4294967295) (.nil))))) (.call 8 (.cons (.var 0) (.cons (.int 3) (.nil)))))) (.seq (.asg 3 .pk (.bi .tuple (.comp .rng1 (.cons (.bin .add (.int 1) (.call 8 (.cons (.var 0) (.cons (.int 3) (.nil))))) (.nil)) (.nm 5) [5] (.nop) (.tup (.cons (.idx (.lst (.cons (.str [103, 111]) (.cons (.str [110, 111]) (.cons (.str [120, 57]) (.nil))))) (.var 5)) (.cons (.var 1) (.cons (.var 2) (.nil)))))))) (.seq (.asg 4 .st (.lst (.cons (.tup (.cons (.str [112, 117, 115, 104]) (.cons (.var 2) (.nil)))) (.cons (.tup (.cons (.str [108, 111, 97, 100]) (.cons (.var 1) (.nil)))) (.cons (.tup (.cons (.str [115, 116, 111, 114, 101]) (.cons (.var 1) (.nil)))) (.cons (.tup (.cons (.str [97, 100, 100]) (.nil))) (.cons (.tup (.cons (.str [115, 117, 98]) (.nil))) (.cons (.tup (.cons (.str [109, 117, 108]) (.nil))) (.cons (.tup (.cons (.str [108, 101, 115, 115]) (.nil))) (.cons (.tup (.cons (.str [115, 97, 109, 101]) (.nil))) (.nil))))))))))) (.seq (.asg 4 .st (.bin .add (.var 4) (.lst (.cons (.tup (.cons (.str [106, 117, 109, 112]) (.cons (.var 2) (.nil)))) (.cons (.tup (.cons (.str [122, 101, 114, 111]) (.cons (.var 2) (.nil)))) (.cons (.tup (.cons (.str [101, 109, 105, 116]) (.cons (.str [98]) (.cons (.var 1) (.nil))))) (.cons (.tup (.cons (.str [119, 97, 105, 116]) (.cons (.str [98]) (.cons (.var 3) (.nil))))) (.cons (.tup (.cons (.str [105, 110, 112, 117, 116]) (.cons (.var 1) (.nil)))) (.nil))))))))) (.seq (.asg 4 .st (.bin .add (.var 4) (.lst (.cons (.tup (.cons (.str [114, 111, 117, 110, 100]) (.cons (.int 3) (.cons (.var 2) (.nil))))) (.cons (.tup (.cons (.str [121, 101, 115]) (.cons (.int 3) (.nil)))) (.cons (.tup (.cons (.str [110, 111]) (.cons (.int 12) (.nil)))) (.cons (.tup (.cons (.str [116, 101, 115, 116]) (.cons (.idx (.lst (.cons (.str [121, 101, 115]) (.cons (.str [110, 111]) (.nil)))) (.call 8 (.cons (.var 0) (.cons (.int 2) (.nil))))) (.nil)))) (.cons (.tup (.cons (.str [115, 116, 111, 112]) (.nil))) (.nil))))))))) (.ret .pk (.idx (.var 4) (.call 8 (.cons (.var 0) (.cons (.int 18) (.nil)))))))))))
def f12 : Fn := ⟨1, 6, false, b12⟩
/-- _law_line: 0 one, 1 words, 2 part, 3 choice -/
def b13 : S := .seq (.asg 1 .fr (.lst (.cons (.idx (.var 0) (.int 0)) (.nil)))) (.seq (.for_ .tup (.slc .tup (.var 0) (.int 1) (.nop)) (.nm 2) (.ite (.bi (.isi 3) (.var 2)) (.for_ .tup (.var 2) (.nm 3) (.asg 1 .fr (.bin .add (.var 1) (.lst (.cons (.idx (.var 3) (.int 0)) (.cons (.idx (.var 3) (.int 1)) (.cons (.bi .str (.idx (.var 3) (.int 2))) (.nil)))))))) (.app 1 .pk (.bi .str (.var 2))))) (.ret .pk (.bin .add (.me .join (.str [32]) (.cons (.var 1) (.nil))) (.str [10]))))
def f13 : Fn := ⟨1, 4, false, b13⟩
/-- _law_bent: 0 tape, 1 text, 2 k, 3 more -/
def b14 : S := .seq (.asg 2 .pk (.call 8 (.cons (.var 0) (.cons (.bin .add (.bi .len (.var 1)) (.int 1)) (.nil))))) (.seq (.asg 3 .pk (.idx (.lst (.cons (.str []) (.cons (.str [32]) (.cons (.str [10]) (.cons (.str [55]) (.cons (.str [48]) (.cons (.str [120]) (.cons (.str [103, 111, 32, 110, 111, 32, 49]) (.cons (.str [45]) (.cons (.str [52, 50, 57, 52, 57, 54, 55, 50, 57, 54]) (.cons (.str [112, 117, 115, 104, 32, 49, 10]) (.cons (.str [121, 101, 115]) (.cons (.str [95]) (.nil)))))))))))))) (.call 8 (.cons (.var 0) (.cons (.int 12) (.nil)))))) (.seq (.ite (.cmp .eq (.call 8 (.cons (.var 0) (.cons (.int 6) (.nil)))) (.int 0)) (.ret .pk (.slc .str (.var 1) (.nop) (.int (-1)))) (.skip)) (.ret .pk (.bin .add (.bin .add (.slc .str (.var 1) (.nop) (.var 2)) (.var 3)) (.slc .str (.var 1) (.bin .add (.var 2) (.call 8 (.cons (.var 0) (.cons (.int 3) (.nil))))) (.nop))))))
def f14 : Fn := ⟨2, 4, false, b14⟩
/-- law: 0 script, 1 tape, 2 k, 3 code, 4 text, 5 bent, 6 word, 7 told, 8 starts, 9 start, 10 line, 11 one, 12 j -/
def b16 : S := .seq (.asg 1 .pk (.call 7 (.cons (.var 0) (.nil)))) (.seq (.asg 3 .pk (.bi .tuple (.comp .rng1 (.cons (.call 8 (.cons (.var 1) (.cons (.int 12) (.nil)))) (.nil)) (.nm 2) [2] (.nop) (.call 12 (.cons (.var 1) (.nil)))))) (.seq (.asg 4 .pk (.me .join (.str []) (.cons (.comp .tup (.var 3) (.nm 11) [11] (.nop) (.call 13 (.cons (.var 11) (.nil)))) (.nil)))) (.seq (.ite (.or_ (.not_ (.call 11 (.cons (.call 1 (.cons (.var 3) (.nil))) (.cons (.var 4) (.nil))))) (.not_ (.call 11 (.cons (.call 6 (.cons (.var 4) (.nil))) (.cons (.var 3) (.nil)))))) (.ret .pk (.bl false)) (.skip)) (.seq (.for_ .rng1 (.cons (.int 3) (.nil)) (.nm 2) (.seq (.asg 5 .pk (.call 14 (.cons (.var 1) (.cons (.var 4) (.nil))))) (.seq (.unp [6, 7] .pk (.call 15 (.cons (.var 5) (.nil)))) (.seq (.ite (.cmp .eq (.var 6) (.str [99, 111, 100, 101])) (.seq (.ite (.not_ (.call 11 (.cons (.me .join (.str []) (.cons (.comp .tup (.var 7) (.nm 11) [11] (.nop) (.call 13 (.cons (.var 11) (.nil)))) (.nil))) (.cons (.var 5) (.nil))))) (.ret .pk (.bl false)) (.skip)) (.cont)) (.skip)) (.seq (.asg 8 .st (.bin .add (.lst (.cons (.int 0) (.nil))) (.comp .rng1 (.cons (.bi .len (.var 5)) (.nil)) (.nm 12) [12] (.cmp .eq (.idx (.var 5) (.var 12)) (.str [10])) (.bin .add (.var 12) (.int 1))))) (.seq (.ite (.and_ (.cmp .ne (.var 7) (.bi .len (.var 5))) (.cmp .notin (.var 7) (.var 8))) (.ret .pk (.bl false)) (.skip)) (.seq (.ite (.and_ (.cmp .eq (.var 7) (.bi .len (.var 5))) (.cmp .eq (.slc .str (.var 5) (.int (-1)) (.nop)) (.str [10]))) (.ret .pk (.bl false)) (.skip)) (.seq (.asg 9 .pk (.ite (.cmp .isin (.var 7) (.var 8)) (.var 7) (.idx (.var 8) (.int (-1))))) (.seq (.ite (.cmp .ne (.idx (.call 15 (.cons (.slc .str (.var 5) (.nop) (.var 9)) (.nil))) (.int 0)) (.str [99, 111, 100, 101])) (.ret .pk (.bl false)) (.skip)) (.ite (.and_ (.cmp .isin (.var 7) (.var 8)) (.cmp .lt (.var 7) (.bi .len (.var 5)))) (.seq (.asg 10 .pk (.bin .add (.idx (.me .split (.slc .str (.var 5) (.var 7) (.nop)) (.cons (.str [10]) (.nil))) (.int 0)) (.str [10]))) (.ite (.cmp .isin (.var 10) (.comp .tup (.var 3) (.nm 11) [11] (.nop) (.call 13 (.cons (.var 11) (.nil))))) (.ret .pk (.bl false)) (.skip))) (.skip))))))))))) (.ret .pk (.bl true))))))
def f16 : Fn := ⟨1, 13, false, b16⟩
def frs : Nat → Bool
  | _ => false
def tabs : Nat → List (List Nat × D)
  | 0 => tab0
  | _ => []
def par (F : Nat → Fn1) : Par := ⟨F, frs, 1000000000, 1, 5, tabs⟩
def stepX (F : Nat → Fn1) : Nat → FnX
  | 6 => runX (par F) f6
  | _ => fun _ _ => none
def step1 (F : Nat → Fn1) (X : Nat → FnX) : Nat → Fn1
  | 0 => runF (par F) f0
  | 1 => runF (par F) f1
  | 2 => runF (par F) f2
  | 3 => runF (par F) f3
  | 4 => runF (par F) f4
  | 5 => runF (par F) f5
  | 6 => okX (runX (par F) f6)
  | 7 => runF (par F) f7
  | 8 => runF (par F) f8
  | 9 => runF (par F) f9
  | 10 => runF (par F) f10
  | 11 => runF (par F) f11
  | 12 => runF (par F) f12
  | 13 => runF (par F) f13
  | 14 => runF (par F) f14
  | 15 => fun ds s => match X 6 ds s with | some (.inl v, s2) => some (.tup [.str [99, 111, 100, 101], v], s2) | some (.inr v, s2) => some (.tup [.str [119, 114, 111, 110, 103], v], s2) | none => none
  | 16 => runF (par F) f16
  | _ => fun _ _ => none
/-- the defs' meaning, by the depth of calls -/
def Ψ : Nat → (Nat → Fn1) × (Nat → FnX)
  | 0 => (fun _ _ _ => none, fun _ _ _ => none)
  | n + 1 => (step1 (Ψ n).1 (Ψ n).2, stepX (Ψ n).1)
def Φ (n : Nat) : Nat → Fn1 := (Ψ n).1
def ΦX (n : Nat) : Nat → FnX := (Ψ n).2
theorem okX6 : ∀ n, okX (ΦX n 6) = Φ n 6
  | 0 => rfl
  | _ + 1 => rfl
end G
set_option Elab.async false
set_option linter.all false
set_option maxRecDepth 100000
set_option maxHeartbeats 4000000
/-! Each def keeps the promise of its meaning (printed by gen.py). -/
namespace G
open PySem PySem.Spec PyProof.Rows L2 DL
def top (i : Nat) : Stmt := PySem.Challenge.pw_talkhouse_k35_texts_of_code.main.body.getD i (.Pass ⟨0, 0, 0, 0⟩)
abbrev t0 : Stmt := top 8
abbrev t1 : Stmt := top 9
abbrev t2 : Stmt := top 10
abbrev t3 : Stmt := top 11
abbrev t4 : Stmt := top 12
abbrev t5 : Stmt := top 13
abbrev t6 : Stmt := top 14
abbrev t7 : Stmt := top 16
abbrev t8 : Stmt := top 17
abbrev t9 : Stmt := top 18
abbrev t10 : Stmt := top 19
abbrev t11 : Stmt := top 20
abbrev t12 : Stmt := top 21
abbrev t13 : Stmt := top 22
abbrev t14 : Stmt := top 23
abbrev t15 : Stmt := top 24
abbrev t16 : Stmt := top 25
/-- what the top has written: built-in names are free, constants, tables -/
structure Txt (e_SHAPES : Array DictEntry) (n_SHAPES : Nat) (K : PySem.W.Frag) (w : World) (C : Cn) (mg : Str → Option Value) : Prop where
  b_abs : mg "abs" = none
  b_all : mg "all" = none
  b_bool : mg "bool" = none
  b_int : mg "int" = none
  b_isinstance : mg "isinstance" = none
  b_len : mg "len" = none
  b_list : mg "list" = none
  b_range : mg "range" = none
  b_str : mg "str" = none
  b_tuple : mg "tuple" = none
  b_zip : mg "zip" = none
  c_SIZE : ∃ t, mg "SIZE" = some (.int 4294967296 t)
  c_SHAPES : mg "SHAPES" = some (.ref (C.tabA 0))
  k_SHAPES : KDict K w (C.tabA 0) e_SHAPES n_SHAPES
  c_DIGITS : ∃ t, mg "DIGITS" = some (.str ("0123456789" : Str) t)
  c_NAME_CHARACTERS : ∃ t, mg "NAME_CHARACTERS" = some (.str ("abcdefghijklmnopqrstuvwxyzABCDEFGHIJKLMNOPQRSTUVWXYZ0123456789_" : Str) t)
def key (i : Nat) : Str := keyL.getD i Str.empty
theorem keyInj : ∀ i j, i < 5 → j < 5 → key i = key j → i = j := by
  have h : ∀ i : Fin 5, ∀ j : Fin 5, key i.val = key j.val → i = j := by decide +kernel
  intro i j hi hj e
  exact congrArg Fin.val (h ⟨i, hi⟩ ⟨j, hj⟩ e)
def cn (K : PySem.W.Frag) (w : World) (ta : Nat → Addr) : Cn := ⟨K, w, key, 5, ta, keyInj⟩
/-- every def keeps its promise, at one depth of calls -/
structure Lv (P : Program) (w : World) (K : PySem.W.Frag) (mg : Str → Option Value) (base : Heap) (C : Cn) (CE : Addr) (n : Nat) : Prop where
  h0 : Cal P w K mg base (3 * n) "write_instruction" ["instruction"] (spD C (Φ n 0) false)
  h1 : Cal P w K mg base (3 * n) "write_code" ["code"] (spD C (Φ n 1) false)
  h2 : Cal P w K mg base (3 * n) "is_name" ["word"] (spD C (Φ n 2) false)
  h3 : Cal P w K mg base (3 * n) "number" ["word"] (spD C (Φ n 3) false)
  h4 : Cal P w K mg base (3 * n) "read_choices" ["words"] (spD C (Φ n 4) false)
  h5 : Cal P w K mg base (3 * n) "read_line" ["line"] (spD C (Φ n 5) false)
  h6 : CalX P w K mg base (3 * n) "read_code" ["text"] (spX C (ΦX n 6) (wish "start" CE))
  h7 : Cal P w K mg base (3 * n) "_law_tape" ["script"] (spD C (Φ n 7) false)
  h8 : Cal P w K mg base (3 * n) "_law_take" ["tape", "many"] (spD C (Φ n 8) false)
  h9 : Cal P w K mg base (3 * n) "_law_is_integer" ["actual"] (spD C (Φ n 9) false)
  h10 : Cal P w K mg base (3 * n) "_law_same_items" ["actual", "expected"] (spD C (Φ n 10) false)
  h11 : Cal P w K mg base (3 * n) "_law_same" ["actual", "expected"] (spD C (Φ n 11) false)
  h12 : Cal P w K mg base (3 * n) "_law_instruction" ["tape"] (spD C (Φ n 12) false)
  h13 : Cal P w K mg base (3 * n) "_law_line" ["one"] (spD C (Φ n 13) false)
  h14 : Cal P w K mg base (3 * n) "_law_bent" ["tape", "text"] (spD C (Φ n 14) false)
  h15 : Cal P w K mg base (3 * n) "_law_read" ["text"] (spD C (Φ n 15) false)
  h16 : Cal P w K mg base (3 * n) "law" ["script"] (spD C (Φ n 16) false)
section
variable {P : Program} {w : World} {K : PySem.W.Frag} {mg : Str → Option Value} {base : Heap} {ta : Nat → Addr} {CE : Addr} {n : Nat} {f : Addr} {fd : FuncData} {e_SHAPES : Array DictEntry} {n_SHAPES : Nat}
abbrev FnP (K : PySem.W.Frag) (x : Str) (st : Stmt) (f : Addr) (fd : FuncData) : Prop := FunD K x x (defArgs st) (defBody st) (defScope st) [] [] f fd
theorem sc0 : FnScope ["instruction", "parts", "part", "label", "variable", "goal"] ["instruction"] (defScope t0) := ⟨rfl, rfl, rfl, by decide +kernel, rfl, by decide +kernel, by decide +kernel⟩
theorem okF0 (F : FnP K "write_instruction" t0 f fd) (T : Txt e_SHAPES n_SHAPES K w (cn K w ta) mg) (Bs : Base (cn K w ta) (par (Φ n))) (L : Lv P w K mg base (cn K w ta) CE n) : FnOk P w K mg base CX0 (3 * (n + 1)) f fd ["instruction"] (spD (cn K w ta) (Φ (n + 1) 0) false) := by
  refine F.ok (k := 3 * n + 2) sc0 (fun vs H Q E h => spD_len (n := 1) (fun ds s r e => runF_len e) h) (fun cdv A outer s H vs Q E hr h => ⟨rdS (cn K w ta) (par (Φ n)) (fun _ _ => False) b0, PSs.nox ?_, run_ok (f := f0) Bs (by rfl) (by decide) h⟩)
  have S := sc0
  have hu := hu_of hr
  dsimp only [b0, rdS, rd, mkR, rdO, rdBa, rdIt, rdG, rdC, gsN, keyP, rKin]
  exact pss_cons (ps_set (i := 1) S.nd (by rfl) (by exact Or.inl rfl) (pe_lst (pa_cons (pe_ix ix_seq (pv 0) (pe_int) (by exact fun _ _ => rfl)) (pa_nil))))
      (pss_cons (ps_for PassesOwn.never (by rfl) (pi_tup (pe_slice sl_tup (pv 0) (po_some (pe_int)) (po_none))) (pg_name (i := 2) S.nd (by rfl) (by exact Or.inl rfl)) (pss_one (ps_if (ptT (pe_callB call_isi (by rfl) T.b_isinstance (by decide +kernel) (pa_cons (pv 2) (pa_cons (qty (by rfl) T.b_tuple (by decide +kernel)) pa_nil)))) (pss_one (ps_for PassesOwn.never (by rfl) (pi_tup (pv 2)) (pg_tup (by rfl) (pgs_cons (pg_name (i := 3) S.nd (by rfl) (by exact Or.inl rfl)) (pgs_cons (pg_name (i := 4) S.nd (by rfl) (by exact Or.inl rfl)) (pgs_cons (pg_name (i := 5) S.nd (by rfl) (by exact Or.inl rfl)) (pgs_nil))))) (pss_one (ps_expr (pe_bm PySem.F.plainAttrs_list PySem.F.slot_list_extend PySem.F.type_list_extend mt_extend (pv 1) (pa_cons (pe_lst (pa_cons (pv 3) (pa_cons (pv 4) (pa_cons (pe_callTy (cStr) (by rfl) T.b_str (by decide +kernel) (pa_cons (pv 5) pa_nil)) (pa_nil))))) pa_nil)))))) (pss_one (ps_expr (pe_bm PySem.F.plainAttrs_list PySem.F.slot_list_append PySem.F.type_list_append mt_append (pv 1) (pa_cons (pe_callTy (cStr) (by rfl) T.b_str (by decide +kernel) (pa_cons (pv 2) pa_nil)) pa_nil)))))))
      (pss_one (ps_ret (pe_op opAdd (pe_bm PySem.F.plainAttrs_str PySem.F.slot_str_join PySem.F.type_str_join mt_join (qs (by decide +kernel)) (pa_cons (pv 1) (pa_nil))) (qs (by decide +kernel))))))
theorem ok0 (F : FnP K "write_instruction" t0 f fd) (mf : mg "write_instruction" = some (.ref f)) (T : Txt e_SHAPES n_SHAPES K w (cn K w ta) mg) (Bs : Base (cn K w ta) (par (Φ n))) (L : Lv P w K mg base (cn K w ta) CE n) : Cal P w K mg base (3 * (n + 1)) "write_instruction" ["instruction"] (spD (cn K w ta) (Φ (n + 1) 0) false) := ⟨f, fd, okF0 F T Bs L, mf, F.kp, F.bindsN fun _ _ _ _ _ _ us hl => match us, hl with | [_], _ => rfl⟩
theorem sc1 : FnScope ["code", "instruction"] ["code"] (defScope t1) := ⟨rfl, rfl, rfl, by decide +kernel, rfl, by decide +kernel, by decide +kernel⟩
theorem okF1 (F : FnP K "write_code" t1 f fd) (T : Txt e_SHAPES n_SHAPES K w (cn K w ta) mg) (Bs : Base (cn K w ta) (par (Φ n))) (L : Lv P w K mg base (cn K w ta) CE n) : FnOk P w K mg base CX0 (3 * (n + 1)) f fd ["code"] (spD (cn K w ta) (Φ (n + 1) 1) false) := by
  refine F.ok (k := 3 * n + 2) sc1 (fun vs H Q E h => spD_len (n := 1) (fun ds s r e => runF_len e) h) (fun cdv A outer s H vs Q E hr h => ⟨rdS (cn K w ta) (par (Φ n)) (fun _ _ => False) b1, PSs.nox ?_, run_ok (f := f1) Bs (by rfl) (by decide) h⟩)
  have S := sc1
  have hu := hu_of hr
  dsimp only [b1, rdS, rd, mkR, rdO, rdBa, rdIt, rdG, rdC, gsN, keyP, rKin]
  exact pss_one (ps_ret (pe_bm PySem.F.plainAttrs_str PySem.F.slot_str_join PySem.F.type_str_join mt_join (qs (by decide +kernel)) (pa_cons (pe_lc (own := [("instruction", 1)]) (by rfl) S.nd (pi_tup (pv 0)) (by exact blkOk_by (by rfl)) (fun _ _ _ _ _ => pg_name (i := 1) S.nd (by rfl) (by first | exact Or.inl rfl | exact Or.inr rfl)) (fun _ _ _ _ _ => pts_nil) (fun _ _ _ _ _ => qc L.h0 (hr.mono (by omega)) (by rfl) (pa_cons (pv 1) (pa_nil)))) (pa_nil))))
theorem ok1 (F : FnP K "write_code" t1 f fd) (mf : mg "write_code" = some (.ref f)) (T : Txt e_SHAPES n_SHAPES K w (cn K w ta) mg) (Bs : Base (cn K w ta) (par (Φ n))) (L : Lv P w K mg base (cn K w ta) CE n) : Cal P w K mg base (3 * (n + 1)) "write_code" ["code"] (spD (cn K w ta) (Φ (n + 1) 1) false) := ⟨f, fd, okF1 F T Bs L, mf, F.kp, F.bindsN fun _ _ _ _ _ _ us hl => match us, hl with | [_], _ => rfl⟩
theorem sc2 : FnScope ["word", "char"] ["word"] (defScope t2) := ⟨rfl, rfl, rfl, by decide +kernel, rfl, by decide +kernel, by decide +kernel⟩
theorem okF2 (F : FnP K "is_name" t2 f fd) (T : Txt e_SHAPES n_SHAPES K w (cn K w ta) mg) (Bs : Base (cn K w ta) (par (Φ n))) (L : Lv P w K mg base (cn K w ta) CE n) : FnOk P w K mg base CX0 (3 * (n + 1)) f fd ["word"] (spD (cn K w ta) (Φ (n + 1) 2) false) := by
  refine F.ok (k := 3 * n + 2) sc2 (fun vs H Q E h => spD_len (n := 1) (fun ds s r e => runF_len e) h) (fun cdv A outer s H vs Q E hr h => ⟨rdS (cn K w ta) (par (Φ n)) (fun _ _ => False) b2, PSs.nox ?_, run_ok (f := f2) Bs (by rfl) (by decide) h⟩)
  have S := sc2
  have hu := hu_of hr
  dsimp only [b2, rdS, rd, mkR, rdO, rdBa, rdIt, rdG, rdC, gsN, keyP, rKin]
  exact pss_one (ps_ret (pe_andT (pe_cmpR op_ne (pv 0) (qs (by decide +kernel)) (nomark _)) (pe_one (pe_callB (cr_all (by rfl)) (by rfl) T.b_all (by decide +kernel) (pa_cons (pe_lc (own := [("char", 1)]) (by rfl) S.nd (pi_str (pv 0)) (by exact blkOk_by (by rfl)) (fun _ _ _ _ _ => pg_name (i := 1) S.nd (by rfl) (by first | exact Or.inl rfl | exact Or.inr rfl)) (fun _ _ _ _ _ => pts_nil) (fun _ _ _ _ _ => pe_cmpR opIn (pv 1) (qgs (by rfl) T.c_NAME_CHARACTERS (by decide +kernel)) (by rfl))) pa_nil)))))
theorem ok2 (F : FnP K "is_name" t2 f fd) (mf : mg "is_name" = some (.ref f)) (T : Txt e_SHAPES n_SHAPES K w (cn K w ta) mg) (Bs : Base (cn K w ta) (par (Φ n))) (L : Lv P w K mg base (cn K w ta) CE n) : Cal P w K mg base (3 * (n + 1)) "is_name" ["word"] (spD (cn K w ta) (Φ (n + 1) 2) false) := ⟨f, fd, okF2 F T Bs L, mf, F.kp, F.bindsN fun _ _ _ _ _ _ us hl => match us, hl with | [_], _ => rfl⟩
theorem sc3 : FnScope ["word", "value", "char"] ["word"] (defScope t3) := ⟨rfl, rfl, rfl, by decide +kernel, rfl, by decide +kernel, by decide +kernel⟩
theorem okF3 (F : FnP K "number" t3 f fd) (T : Txt e_SHAPES n_SHAPES K w (cn K w ta) mg) (Bs : Base (cn K w ta) (par (Φ n))) (L : Lv P w K mg base (cn K w ta) CE n) : FnOk P w K mg base CX0 (3 * (n + 1)) f fd ["word"] (spD (cn K w ta) (Φ (n + 1) 3) false) := by
  refine F.ok (k := 3 * n + 2) sc3 (fun vs H Q E h => spD_len (n := 1) (fun ds s r e => runF_len e) h) (fun cdv A outer s H vs Q E hr h => ⟨rdS (cn K w ta) (par (Φ n)) (fun _ _ => False) b3, PSs.nox ?_, run_ok (f := f3) Bs (by rfl) (by decide) h⟩)
  have S := sc3
  have hu := hu_of hr
  dsimp only [b3, rdS, rd, mkR, rdO, rdBa, rdIt, rdG, rdC, gsN, keyP, rKin]
  exact pss_cons (ps_if (PW.pt (pw_or (pt_cmpR op_eq (pv 0) (qs (by decide +kernel)) (nomark _)) (pw_or (pt_not (ptT (pe_callB (cr_all (by rfl)) (by rfl) T.b_all (by decide +kernel) (pa_cons (pe_lc (own := [("char", 2)]) (by rfl) S.nd (pi_str (pv 0)) (by exact blkOk_by (by rfl)) (fun _ _ _ _ _ => pg_name (i := 2) S.nd (by rfl) (by first | exact Or.inl rfl | exact Or.inr rfl)) (fun _ _ _ _ _ => pts_nil) (fun _ _ _ _ _ => pe_cmpR opIn (pv 2) (qgs (by rfl) T.c_DIGITS (by decide +kernel)) (by rfl))) pa_nil)))) (pw_or (PW.pt (pw_and (pt_cmpR op_eq (pe_ix ix_seq (pv 0) (pe_int) (by exact fun _ _ => rfl)) (qs (by decide +kernel)) (nomark _)) (pw_and1 (pt_cmpR op_ne (pv 0) (qs (by decide +kernel)) (nomark _))))) (pw_or1 (pt_cmpR op_gt (pe_callB (call_len) (by rfl) T.b_len (by decide +kernel) (pa_cons (pv 0) pa_nil)) (pe_int) (nomark _))))))) (pss_one (ps_ret (pe_non))) (pss_nil))
      (pss_cons (ps_set (i := 1) S.nd (by rfl) (by exact Or.inl rfl) (pe_callTy (cInt) (by rfl) T.b_int (by decide +kernel) (pa_cons (pv 0) pa_nil)))
      (pss_one (ps_ret (pe_ifExp (pt_cmpR op_lt (pv 1) (qgi (by rfl) T.c_SIZE) (nomark _)) (pv 1) (pe_non)))))
theorem ok3 (F : FnP K "number" t3 f fd) (mf : mg "number" = some (.ref f)) (T : Txt e_SHAPES n_SHAPES K w (cn K w ta) mg) (Bs : Base (cn K w ta) (par (Φ n))) (L : Lv P w K mg base (cn K w ta) CE n) : Cal P w K mg base (3 * (n + 1)) "number" ["word"] (spD (cn K w ta) (Φ (n + 1) 3) false) := ⟨f, fd, okF3 F T Bs L, mf, F.kp, F.bindsN fun _ _ _ _ _ _ us hl => match us, hl with | [_], _ => rfl⟩
theorem sc4 : FnScope ["words", "result", "at", "goal"] ["words"] (defScope t4) := ⟨rfl, rfl, rfl, by decide +kernel, rfl, by decide +kernel, by decide +kernel⟩
theorem okF4 (F : FnP K "read_choices" t4 f fd) (T : Txt e_SHAPES n_SHAPES K w (cn K w ta) mg) (Bs : Base (cn K w ta) (par (Φ n))) (L : Lv P w K mg base (cn K w ta) CE n) : FnOk P w K mg base CX0 (3 * (n + 1)) f fd ["words"] (spD (cn K w ta) (Φ (n + 1) 4) false) := by
  refine F.ok (k := 3 * n + 2) sc4 (fun vs H Q E h => spD_len (n := 1) (fun ds s r e => runF_len e) h) (fun cdv A outer s H vs Q E hr h => ⟨rdS (cn K w ta) (par (Φ n)) (fun _ _ => False) b4, PSs.nox ?_, run_ok (f := f4) Bs (by rfl) (by decide) h⟩)
  have S := sc4
  have hu := hu_of hr
  dsimp only [b4, rdS, rd, mkR, rdO, rdBa, rdIt, rdG, rdC, gsN, keyP, rKin]
  exact pss_cons (ps_if (PW.pt (pw_or (pt_not (ptT (pv 0))) (pw_or1 (pt_cmpR op_ne (pe_op op_mod (pe_callB (call_len) (by rfl) T.b_len (by decide +kernel) (pa_cons (pv 0) pa_nil)) (pe_int)) (pe_int) (nomark _))))) (pss_one (ps_ret (pe_non))) (pss_nil))
      (pss_cons (ps_set (i := 1) S.nd (by rfl) (by exact Or.inl rfl) (pe_lst (pa_nil)))
      (pss_cons (ps_for PassesOwn.never (by rfl) (pi_range3 (by rfl) T.b_range (pa_cons (pe_int) (pa_cons (pe_callB (call_len) (by rfl) T.b_len (by decide +kernel) (pa_cons (pv 0) pa_nil)) (pa_cons (pe_int) (pa_nil))))) (pg_name (i := 2) S.nd (by rfl) (by exact Or.inl rfl)) (pss_cons (ps_set (i := 3) S.nd (by rfl) (by exact Or.inl rfl) (qc L.h3 (hr.mono (by omega)) (by rfl) (pa_cons (pe_ix ix_seq (pv 0) (pe_op opAdd (pv 2) (pe_int)) (by exact fun _ _ => rfl)) (pa_nil))))
      (pss_cons (ps_if (PW.pt (pw_or (pt_not (ptT (qc L.h2 (hr.mono (by omega)) (by rfl) (pa_cons (pe_ix ix_seq (pv 0) (pv 2) (by exact fun _ _ => rfl)) (pa_nil))))) (pw_or (pt_not (ptT (qc L.h2 (hr.mono (by omega)) (by rfl) (pa_cons (pe_ix ix_seq (pv 0) (pe_op opAdd (pv 2) (pe_int)) (by exact fun _ _ => rfl)) (pa_nil))))) (pw_or1 (pt_cmpR op_isN (pv 3) (pe_non) (nomark _)))))) (pss_one (ps_ret (pe_non))) (pss_nil))
      (pss_one (ps_expr (pe_bm PySem.F.plainAttrs_list PySem.F.slot_list_append PySem.F.type_list_append mt_append (pv 1) (pa_cons (pe_tup (pa_cons (pe_ix ix_seq (pv 0) (pv 2) (by exact fun _ _ => rfl)) (pa_cons (pe_ix ix_seq (pv 0) (pe_op opAdd (pv 2) (pe_int)) (by exact fun _ _ => rfl)) (pa_cons (pv 3) (pa_nil))))) pa_nil)))))))
      (pss_one (ps_ret (pe_callTy (call_tuple_of) (by rfl) T.b_tuple (by decide +kernel) (pa_cons (pv 1) pa_nil))))))
theorem ok4 (F : FnP K "read_choices" t4 f fd) (mf : mg "read_choices" = some (.ref f)) (T : Txt e_SHAPES n_SHAPES K w (cn K w ta) mg) (Bs : Base (cn K w ta) (par (Φ n))) (L : Lv P w K mg base (cn K w ta) CE n) : Cal P w K mg base (3 * (n + 1)) "read_choices" ["words"] (spD (cn K w ta) (Φ (n + 1) 4) false) := ⟨f, fd, okF4 F T Bs L, mf, F.kp, F.bindsN fun _ _ _ _ _ _ us hl => match us, hl with | [_], _ => rfl⟩
theorem sc5 : FnScope ["line", "words", "shape", "choices", "result", "sort", "word", "part"] ["line"] (defScope t5) := ⟨rfl, rfl, rfl, by decide +kernel, rfl, by decide +kernel, by decide +kernel⟩
theorem okF5 (F : FnP K "read_line" t5 f fd) (T : Txt e_SHAPES n_SHAPES K w (cn K w ta) mg) (Bs : Base (cn K w ta) (par (Φ n))) (L : Lv P w K mg base (cn K w ta) CE n) : FnOk P w K mg base CX0 (3 * (n + 1)) f fd ["line"] (spD (cn K w ta) (Φ (n + 1) 5) false) := by
  refine F.ok (k := 3 * n + 2) sc5 (fun vs H Q E h => spD_len (n := 1) (fun ds s r e => runF_len e) h) (fun cdv A outer s H vs Q E hr h => ⟨rdS (cn K w ta) (par (Φ n)) (fun _ _ => False) b5, PSs.nox ?_, run_ok (f := f5) Bs (by rfl) (by decide) h⟩)
  have S := sc5
  have hu := hu_of hr
  dsimp only [b5, rdS, rd, mkR, rdO, rdBa, rdIt, rdG, rdC, gsN, keyP, rKin]
  exact pss_cons (ps_set (i := 1) S.nd (by rfl) (by exact Or.inl rfl) (pe_bm PySem.F.plainAttrs_str PySem.F.slot_str_split PySem.F.type_str_split mt_split (pv 0) (pa_cons (qs (by decide +kernel)) (pa_nil))))
      (pss_cons (ps_if (pt_cmpR (opKnin T.k_SHAPES) (pe_ix ix_seq (pv 1) (pe_int) (by exact fun _ _ => rfl)) (qgr (by rfl) T.c_SHAPES) rfl) (pss_one (ps_ret (pe_non))) (pss_nil))
      (pss_cons (ps_set (i := 2) S.nd (by rfl) (by exact Or.inl rfl) (pe_ix ix_kdict (qgr (by rfl) T.c_SHAPES) (pe_ix ix_seq (pv 1) (pe_int) (by exact fun _ _ => rfl)) (by exact fun _ _ => rfl)))
      (pss_cons (ps_if (pt_cmpR op_eq (pe_ix ix_seq (pv 1) (pe_int) (by exact fun _ _ => rfl)) (qs (by decide +kernel)) (nomark _)) (pss_cons (ps_set (i := 3) S.nd (by rfl) (by exact Or.inl rfl) (qc L.h4 (hr.mono (by omega)) (by rfl) (pa_cons (pe_slice sl_list (pv 1) (po_some (pe_int)) (po_none)) (pa_nil))))
      (pss_one (ps_ret (pe_ifExp (PW.pt (pw_and (pt_cmpR op_notN (pv 3) (pe_non) (nomark _)) (pw_and1 (ptT (qc L.h2 (hr.mono (by omega)) (by rfl) (pa_cons (pe_ix ix_seq (pv 1) (pe_int) (by exact fun _ _ => rfl)) (pa_nil))))))) (pe_tup (pa_cons (qs (by decide +kernel)) (pa_cons (pe_ix ix_seq (pv 1) (pe_int) (by exact fun _ _ => rfl)) (pa_cons (pv 3) (pa_nil))))) (pe_non))))) (pss_nil))
      (pss_cons (ps_if (pt_cmpR op_ne (pe_callB (call_len) (by rfl) T.b_len (by decide +kernel) (pa_cons (pv 1) pa_nil)) (pe_op opAdd (pe_callB (call_len) (by rfl) T.b_len (by decide +kernel) (pa_cons (pv 2) pa_nil)) (pe_int)) (nomark _)) (pss_one (ps_ret (pe_non))) (pss_nil))
      (pss_cons (ps_set (i := 4) S.nd (by rfl) (by exact Or.inl rfl) (pe_lst (pa_cons (pe_ix ix_seq (pv 1) (pe_int) (by exact fun _ _ => rfl)) (pa_nil))))
      (pss_cons (ps_for PassesOwn.never (by rfl) (pi_zipS (by rfl) T.b_zip (pa_cons (pv 2) (pa_cons (pe_slice sl_list (pv 1) (po_some (pe_int)) (po_none)) (pa_nil)))) (pg_tup (by rfl) (pgs_cons (pg_name (i := 5) S.nd (by rfl) (by exact Or.inl rfl)) (pgs_cons (pg_name (i := 6) S.nd (by rfl) (by exact Or.inl rfl)) (pgs_nil)))) (pss_cons (ps_set (i := 7) S.nd (by rfl) (by exact Or.inl rfl) (pe_ifExp (pt_cmpR opIn (pv 5) (pe_tup (pa_cons (qs (by decide +kernel)) (pa_cons (qs (by decide +kernel)) (pa_nil)))) (by rfl)) (qc L.h3 (hr.mono (by omega)) (by rfl) (pa_cons (pv 6) (pa_nil))) (pv 6)))
      (pss_cons (ps_if (PW.pt (pw_or (pt_cmpR op_isN (pv 7) (pe_non) (nomark _)) (pw_or1 (PW.pt (pw_and (pt_cmpR opNotIn (pv 5) (pe_tup (pa_cons (qs (by decide +kernel)) (pa_cons (qs (by decide +kernel)) (pa_nil)))) (by rfl)) (pw_and1 (pt_not (ptT (qc L.h2 (hr.mono (by omega)) (by rfl) (pa_cons (pv 6) (pa_nil))))))))))) (pss_one (ps_ret (pe_non))) (pss_nil))
      (pss_cons (ps_if (PW.pt (pw_and (pt_cmpR op_eq (pv 5) (qs (by decide +kernel)) (nomark _)) (pw_and1 (pt_cmpR opNotIn (pv 6) (pe_tup (pa_cons (qs (by decide +kernel)) (pa_cons (qs (by decide +kernel)) (pa_nil)))) (by rfl))))) (pss_one (ps_ret (pe_non))) (pss_nil))
      (pss_one (ps_expr (pe_bm PySem.F.plainAttrs_list PySem.F.slot_list_append PySem.F.type_list_append mt_append (pv 4) (pa_cons (pv 7) pa_nil))))))))
      (pss_one (ps_ret (pe_callTy (call_tuple_of) (by rfl) T.b_tuple (by decide +kernel) (pa_cons (pv 4) pa_nil))))))))))
theorem ok5 (F : FnP K "read_line" t5 f fd) (mf : mg "read_line" = some (.ref f)) (T : Txt e_SHAPES n_SHAPES K w (cn K w ta) mg) (Bs : Base (cn K w ta) (par (Φ n))) (L : Lv P w K mg base (cn K w ta) CE n) : Cal P w K mg base (3 * (n + 1)) "read_line" ["line"] (spD (cn K w ta) (Φ (n + 1) 5) false) := ⟨f, fd, okF5 F T Bs L, mf, F.kp, F.bindsN fun _ _ _ _ _ _ us hl => match us, hl with | [_], _ => rfl⟩
theorem sc6 : FnScope ["text", "result", "start", "end", "instruction"] ["text"] (defScope t6) := ⟨rfl, rfl, rfl, by decide +kernel, rfl, by decide +kernel, by decide +kernel⟩
theorem ok6 (F : FnP K "read_code" t6 f fd) (mf : mg "read_code" = some (.ref f)) (X0 : ExP P w K mg base "SyntaxProblem" "start" CE) (T : Txt e_SHAPES n_SHAPES K w (cn K w ta) mg) (Bs : Base (cn K w ta) (par (Φ n))) (L : Lv P w K mg base (cn K w ta) CE n) : CalX P w K mg base (3 * (n + 1)) "read_code" ["text"] (spX (cn K w ta) (ΦX (n + 1) 6) (wish "start" CE)) := by
  refine ⟨f, fd, F.ok (k := 3 * n + 2) sc6 (fun vs H Q E h => spX_len (n := 1) (fun ds s r e => runX_len e) h) (fun cdv A outer s H vs Q E hr h => ⟨rdS (cn K w ta) (par (Φ n)) (wish "start" CE E) b6, ?_, run_okX (f := f6) Bs (by rfl) (by decide) h⟩), mf, F.kp, F.bindsN fun _ _ _ _ _ _ us hl => match us, hl with | [_], _ => rfl⟩
  have S := sc6
  have hu := hu_of hr
  dsimp only [b6, rdS, rd, mkR, rdO, rdBa, rdIt, rdG, rdC, gsN, keyP, rKin]
  exact pss_cons (ps_set (i := 1) S.nd (by rfl) (by exact Or.inl rfl) (pe_lst (pa_nil)))
      (pss_cons (ps_set (i := 2) S.nd (by rfl) (by exact Or.inl rfl) (pe_int))
      (pss_cons (ps_while (passes_of rfl) (pt_cmpR op_lt (pv 2) (pe_callB (call_len) (by rfl) T.b_len (by decide +kernel) (pa_cons (pv 0) pa_nil)) (nomark _)) (pss_cons (ps_set (i := 3) S.nd (by rfl) (by exact Or.inl rfl) (pe_bm PySem.F.plainAttrs_str PySem.F.slot_str_find PySem.F.type_str_find mt_find3 (pv 0) (pa_cons (qs (by decide +kernel)) (pa_cons (pv 2) (pa_nil)))))
      (pss_cons (ps_if (pt_cmpR op_lt (pv 3) (pe_int) (nomark _)) (pss_one (qraise rfl (takes_of rfl rfl rfl rfl) X0 (hr.mono (by omega)) (by rfl) (pe_callB (call_len) (by rfl) T.b_len (by decide +kernel) (pa_cons (pv 0) pa_nil)))) (pss_nil))
      (pss_cons (ps_set (i := 4) S.nd (by rfl) (by exact Or.inl rfl) (qc L.h5 (hr.mono (by omega)) (by rfl) (pa_cons (pe_slice sl_str (pv 0) (po_some (pv 2)) (po_some (pv 3))) (pa_nil))))
      (pss_cons (ps_if (pt_cmpR op_isN (pv 4) (pe_non) (nomark _)) (pss_one (qraise rfl (takes_of rfl rfl rfl rfl) X0 (hr.mono (by omega)) (by rfl) (pv 2))) (pss_nil))
      (pss_cons (ps_expr (pe_bm PySem.F.plainAttrs_list PySem.F.slot_list_append PySem.F.type_list_append mt_append (pv 1) (pa_cons (pv 4) pa_nil)))
      (pss_one (ps_set (i := 2) S.nd (by rfl) (by exact Or.inl rfl) (pe_op opAdd (pv 3) (pe_int))))))))))
      (pss_one (ps_ret (pe_callTy (call_tuple_of) (by rfl) T.b_tuple (by decide +kernel) (pa_cons (pv 1) pa_nil))))))
theorem sc7 : FnScope ["script", "cell", "cells", "seed"] ["script"] (defScope t7) := ⟨rfl, rfl, rfl, by decide +kernel, rfl, by decide +kernel, by decide +kernel⟩
theorem okF7 (F : FnP K "_law_tape" t7 f fd) (T : Txt e_SHAPES n_SHAPES K w (cn K w ta) mg) (Bs : Base (cn K w ta) (par (Φ n))) (L : Lv P w K mg base (cn K w ta) CE n) : FnOk P w K mg base CX0 (3 * (n + 1)) f fd ["script"] (spD (cn K w ta) (Φ (n + 1) 7) false) := by
  refine F.ok (k := 3 * n + 2) sc7 (fun vs H Q E h => spD_len (n := 1) (fun ds s r e => runF_len e) h) (fun cdv A outer s H vs Q E hr h => ⟨rdS (cn K w ta) (par (Φ n)) (fun _ _ => False) b7, PSs.nox ?_, run_ok (f := f7) Bs (by rfl) (by decide) h⟩)
  have S := sc7
  have hu := hu_of hr
  dsimp only [b7, rdS, rd, mkR, rdO, rdBa, rdIt, rdG, rdC, gsN, keyP, rKin]
  exact pss_cons (ps_setLc (i := 2) (own := [("cell", 1)]) (by rfl) S.nd (by rfl) (by rfl) (by exact sw_true rfl rfl rfl (by decide +kernel)) (pi_list (pv 0)) (by exact blkOk_by (by rfl)) (fun _ _ _ _ _ => pg_name (i := 1) S.nd (by rfl) (by first | exact Or.inl rfl | exact Or.inr rfl)) (fun _ _ _ _ _ => pts_nil) (fun _ _ _ _ _ => pe_callB (call_abs) (by rfl) T.b_abs (by decide +kernel) (pa_cons (pe_callTy (cInt) (by rfl) T.b_int (by decide +kernel) (pa_cons (pv 1) pa_nil)) pa_nil)))
      (pss_cons (ps_set (i := 3) S.nd (by rfl) (by exact Or.inl rfl) (pe_int))
      (pss_cons (ps_for PassesOwn.never (by rfl) (pi_list (pv 2)) (pg_name (i := 1) S.nd (by rfl) (by exact Or.inl rfl)) (pss_one (ps_set (i := 3) S.nd (by rfl) (by exact Or.inl rfl) (pe_op op_mod (pe_callTy (cInt) (by rfl) T.b_int (by decide +kernel) (pa_cons (pe_op opAdd (pe_op op_mul (pv 3) (pe_int)) (pv 1)) pa_nil)) (pe_int)))))
      (pss_one (ps_ret (pe_disp (pps_cons pe_str (pv 2) (pps_cons pe_str (pe_int) (pps_cons pe_str (pe_int) (pps_cons pe_str (pv 3) (pps_cons pe_str (pe_int) (pps_nil)))))) rfl rfl (by simp) (by decide))))))
theorem ok7 (F : FnP K "_law_tape" t7 f fd) (mf : mg "_law_tape" = some (.ref f)) (T : Txt e_SHAPES n_SHAPES K w (cn K w ta) mg) (Bs : Base (cn K w ta) (par (Φ n))) (L : Lv P w K mg base (cn K w ta) CE n) : Cal P w K mg base (3 * (n + 1)) "_law_tape" ["script"] (spD (cn K w ta) (Φ (n + 1) 7) false) := ⟨f, fd, okF7 F T Bs L, mf, F.kp, F.bindsN fun _ _ _ _ _ _ us hl => match us, hl with | [_], _ => rfl⟩
theorem sc8 : FnScope ["tape", "many", "drawn", "mixed"] ["tape", "many"] (defScope t8) := ⟨rfl, rfl, rfl, by decide +kernel, rfl, by decide +kernel, by decide +kernel⟩
theorem okF8 (F : FnP K "_law_take" t8 f fd) (T : Txt e_SHAPES n_SHAPES K w (cn K w ta) mg) (Bs : Base (cn K w ta) (par (Φ n))) (L : Lv P w K mg base (cn K w ta) CE n) : FnOk P w K mg base CX0 (3 * (n + 1)) f fd ["tape", "many"] (spD (cn K w ta) (Φ (n + 1) 8) false) := by
  refine F.ok (k := 3 * n + 2) sc8 (fun vs H Q E h => spD_len (n := 2) (fun ds s r e => runF_len e) h) (fun cdv A outer s H vs Q E hr h => ⟨rdS (cn K w ta) (par (Φ n)) (fun _ _ => False) b8, PSs.nox ?_, run_ok (f := f8) Bs (by rfl) (by decide) h⟩)
  have S := sc8
  have hu := hu_of hr
  dsimp only [b8, rdS, rd, mkR, rdO, rdBa, rdIt, rdG, rdC, gsN, keyP, rKin]
  exact pss_cons (ps_if (PW.pt (pw_and (pt_cmpR op_eq (pe_dget hu (pv 0) pe_str (by exact fun _ _ => rfl)) (pe_int) (nomark _)) (pw_and1 (pt_cmpR op_lt (pe_dget hu (pv 0) pe_str (by exact fun _ _ => rfl)) (pe_callB (call_len) (by rfl) T.b_len (by decide +kernel) (pa_cons (pe_dget hu (pv 0) pe_str (by exact fun _ _ => rfl)) pa_nil)) (nomark _))))) (pss_cons (ps_dput hu (pv 0) pe_str (pe_ix ix_seq (pe_dget hu (pv 0) pe_str (by exact fun _ _ => rfl)) (pe_dget hu (pv 0) pe_str (by exact fun _ _ => rfl)) (by exact fun _ _ => rfl)) rfl)
      (pss_one (ps_dput hu (pv 0) pe_str (pe_op opAdd (pe_dget hu (pv 0) pe_str (by exact fun _ _ => rfl)) (pe_int)) rfl))) (pss_nil))
      (pss_cons (ps_if (pt_cmpR op_gt (pe_dget hu (pv 0) pe_str (by exact fun _ _ => rfl)) (pe_int) (nomark _)) (pss_cons (ps_set (i := 2) S.nd (by rfl) (by exact Or.inl rfl) (pe_op op_mod (pe_callTy (cInt) (by rfl) T.b_int (by decide +kernel) (pa_cons (pe_dget hu (pv 0) pe_str (by exact fun _ _ => rfl)) pa_nil)) (pv 1)))
      (pss_cons (ps_dput hu (pv 0) pe_str (pe_op op_fdiv (pe_dget hu (pv 0) pe_str (by exact fun _ _ => rfl)) (pv 1)) rfl)
      (pss_one (ps_ret (pv 2))))) (pss_nil))
      (pss_cons (ps_dput hu (pv 0) pe_str (pe_op opAdd (pe_dget hu (pv 0) pe_str (by exact fun _ _ => rfl)) (pe_int)) rfl)
      (pss_cons (ps_set (i := 3) S.nd (by rfl) (by exact Or.inl rfl) (pe_op op_mod (pe_callTy (cInt) (by rfl) T.b_int (by decide +kernel) (pa_cons (pe_op opAdd (pe_op op_mul (pe_dget hu (pv 0) pe_str (by exact fun _ _ => rfl)) (pe_int)) (pe_op op_mul (pe_dget hu (pv 0) pe_str (by exact fun _ _ => rfl)) (pe_int))) pa_nil)) (pe_int)))
      (pss_cons (ps_set (i := 3) S.nd (by rfl) (by exact Or.inl rfl) (pe_op op_mod (pe_callTy (cInt) (by rfl) T.b_int (by decide +kernel) (pa_cons (pe_op opAdd (pe_op opAdd (pe_op op_mul (pv 3) (pv 3)) (pe_op op_mul (pe_dget hu (pv 0) pe_str (by exact fun _ _ => rfl)) (pe_int))) (pe_int)) pa_nil)) (pe_int)))
      (pss_one (ps_ret (pe_op op_mod (pe_callTy (cInt) (by rfl) T.b_int (by decide +kernel) (pa_cons (pv 3) pa_nil)) (pv 1))))))))
theorem ok8 (F : FnP K "_law_take" t8 f fd) (mf : mg "_law_take" = some (.ref f)) (T : Txt e_SHAPES n_SHAPES K w (cn K w ta) mg) (Bs : Base (cn K w ta) (par (Φ n))) (L : Lv P w K mg base (cn K w ta) CE n) : Cal P w K mg base (3 * (n + 1)) "_law_take" ["tape", "many"] (spD (cn K w ta) (Φ (n + 1) 8) false) := ⟨f, fd, okF8 F T Bs L, mf, F.kp, F.bindsN fun _ _ _ _ _ _ us hl => match us, hl with | [_, _], _ => rfl⟩
theorem sc9 : FnScope ["actual"] ["actual"] (defScope t9) := ⟨rfl, rfl, rfl, by decide +kernel, rfl, by decide +kernel, by decide +kernel⟩
theorem okF9 (F : FnP K "_law_is_integer" t9 f fd) (T : Txt e_SHAPES n_SHAPES K w (cn K w ta) mg) (Bs : Base (cn K w ta) (par (Φ n))) (L : Lv P w K mg base (cn K w ta) CE n) : FnOk P w K mg base CX0 (3 * (n + 1)) f fd ["actual"] (spD (cn K w ta) (Φ (n + 1) 9) false) := by
  refine F.ok (k := 3 * n + 2) sc9 (fun vs H Q E h => spD_len (n := 1) (fun ds s r e => runF_len e) h) (fun cdv A outer s H vs Q E hr h => ⟨rdS (cn K w ta) (par (Φ n)) (fun _ _ => False) b9, PSs.nox ?_, run_ok (f := f9) Bs (by rfl) (by decide) h⟩)
  have S := sc9
  have hu := hu_of hr
  dsimp only [b9, rdS, rd, mkR, rdO, rdBa, rdIt, rdG, rdC, gsN, keyP, rKin]
  exact pss_one (ps_ret (pe_andT (pe_callB call_isi (by rfl) T.b_isinstance (by decide +kernel) (pa_cons (pv 0) (pa_cons (qty (by rfl) T.b_int (by decide +kernel)) pa_nil))) (pe_one (pe_notT (pe_callB call_isi (by rfl) T.b_isinstance (by decide +kernel) (pa_cons (pv 0) (pa_cons (qty (by rfl) T.b_bool (by decide +kernel)) pa_nil)))))))
theorem ok9 (F : FnP K "_law_is_integer" t9 f fd) (mf : mg "_law_is_integer" = some (.ref f)) (T : Txt e_SHAPES n_SHAPES K w (cn K w ta) mg) (Bs : Base (cn K w ta) (par (Φ n))) (L : Lv P w K mg base (cn K w ta) CE n) : Cal P w K mg base (3 * (n + 1)) "_law_is_integer" ["actual"] (spD (cn K w ta) (Φ (n + 1) 9) false) := ⟨f, fd, okF9 F T Bs L, mf, F.kp, F.bindsN fun _ _ _ _ _ _ us hl => match us, hl with | [_], _ => rfl⟩
theorem sc10 : FnScope ["actual", "expected", "k"] ["actual", "expected"] (defScope t10) := ⟨rfl, rfl, rfl, by decide +kernel, rfl, by decide +kernel, by decide +kernel⟩
theorem okF10 (F : FnP K "_law_same_items" t10 f fd) (T : Txt e_SHAPES n_SHAPES K w (cn K w ta) mg) (Bs : Base (cn K w ta) (par (Φ n))) (L : Lv P w K mg base (cn K w ta) CE n) : FnOk P w K mg base CX0 (3 * (n + 1)) f fd ["actual", "expected"] (spD (cn K w ta) (Φ (n + 1) 10) false) := by
  refine F.ok (k := 3 * n + 2) sc10 (fun vs H Q E h => spD_len (n := 2) (fun ds s r e => runF_len e) h) (fun cdv A outer s H vs Q E hr h => ⟨rdS (cn K w ta) (par (Φ n)) (fun _ _ => False) b10, PSs.nox ?_, run_ok (f := f10) Bs (by rfl) (by decide) h⟩)
  have S := sc10
  have hu := hu_of hr
  dsimp only [b10, rdS, rd, mkR, rdO, rdBa, rdIt, rdG, rdC, gsN, keyP, rKin]
  exact pss_cons (ps_if (pt_cmpR op_ne (pe_callB (call_len) (by rfl) T.b_len (by decide +kernel) (pa_cons (pv 0) pa_nil)) (pe_callB (call_len) (by rfl) T.b_len (by decide +kernel) (pa_cons (pv 1) pa_nil)) (nomark _)) (pss_one (ps_ret (pe_bl))) (pss_nil))
      (pss_cons (ps_for PassesOwn.never (by rfl) (pi_range1 (by rfl) T.b_range (pa_cons (pe_callB (call_len) (by rfl) T.b_len (by decide +kernel) (pa_cons (pv 1) pa_nil)) (pa_nil))) (pg_name (i := 2) S.nd (by rfl) (by exact Or.inl rfl)) (pss_one (ps_if (pt_not (ptT (qc L.h11 (hr.mono (by omega)) (by rfl) (pa_cons (pe_ix ix_seq (pv 0) (pv 2) (by exact fun _ _ => rfl)) (pa_cons (pe_ix ix_seq (pv 1) (pv 2) (by exact fun _ _ => rfl)) (pa_nil)))))) (pss_one (ps_ret (pe_bl))) (pss_nil))))
      (pss_one (ps_ret (pe_bl))))
theorem ok10 (F : FnP K "_law_same_items" t10 f fd) (mf : mg "_law_same_items" = some (.ref f)) (T : Txt e_SHAPES n_SHAPES K w (cn K w ta) mg) (Bs : Base (cn K w ta) (par (Φ n))) (L : Lv P w K mg base (cn K w ta) CE n) : Cal P w K mg base (3 * (n + 1)) "_law_same_items" ["actual", "expected"] (spD (cn K w ta) (Φ (n + 1) 10) false) := ⟨f, fd, okF10 F T Bs L, mf, F.kp, F.bindsN fun _ _ _ _ _ _ us hl => match us, hl with | [_, _], _ => rfl⟩
theorem sc11 : FnScope ["actual", "expected", "key"] ["actual", "expected"] (defScope t11) := ⟨rfl, rfl, rfl, by decide +kernel, rfl, by decide +kernel, by decide +kernel⟩
theorem okF11 (F : FnP K "_law_same" t11 f fd) (T : Txt e_SHAPES n_SHAPES K w (cn K w ta) mg) (Bs : Base (cn K w ta) (par (Φ n))) (L : Lv P w K mg base (cn K w ta) CE n) : FnOk P w K mg base CX0 (3 * (n + 1)) f fd ["actual", "expected"] (spD (cn K w ta) (Φ (n + 1) 11) false) := by
  refine F.ok (k := 3 * n + 2) sc11 (fun vs H Q E h => spD_len (n := 2) (fun ds s r e => runF_len e) h) (fun cdv A outer s H vs Q E hr h => ⟨rdS (cn K w ta) (par (Φ n)) (fun _ _ => False) b11, PSs.nox ?_, run_ok (f := f11) Bs (by rfl) (by decide) h⟩)
  have S := sc11
  have hu := hu_of hr
  dsimp only [b11, rdS, rd, mkR, rdO, rdBa, rdIt, rdG, rdC, gsN, keyP, rKin]
  exact pss_cons (ps_if (pt_cmpR op_isN (pv 1) (pe_non) (nomark _)) (pss_one (ps_ret (pe_cmpR op_isN (pv 0) (pe_non) (nomark _)))) (pss_nil))
      (pss_cons (ps_if (ptT (pe_callB call_isi (by rfl) T.b_isinstance (by decide +kernel) (pa_cons (pv 1) (pa_cons (qty (by rfl) T.b_bool (by decide +kernel)) pa_nil)))) (pss_one (ps_ret (pe_andT (pe_callB call_isi (by rfl) T.b_isinstance (by decide +kernel) (pa_cons (pv 0) (pa_cons (qty (by rfl) T.b_bool (by decide +kernel)) pa_nil))) (pe_one (pe_cmpR op_eq (pv 0) (pv 1) (nomark _)))))) (pss_nil))
      (pss_cons (ps_if (ptT (pe_callB call_isi (by rfl) T.b_isinstance (by decide +kernel) (pa_cons (pv 1) (pa_cons (qty (by rfl) T.b_int (by decide +kernel)) pa_nil)))) (pss_one (ps_ret (pe_andT (qc L.h9 (hr.mono (by omega)) (by rfl) (pa_cons (pv 0) (pa_nil))) (pe_one (pe_cmpR op_eq (pv 0) (pv 1) (nomark _)))))) (pss_nil))
      (pss_cons (ps_if (ptT (pe_callB call_isi (by rfl) T.b_isinstance (by decide +kernel) (pa_cons (pv 1) (pa_cons (qty (by rfl) T.b_str (by decide +kernel)) pa_nil)))) (pss_one (ps_ret (pe_andT (pe_callB call_isi (by rfl) T.b_isinstance (by decide +kernel) (pa_cons (pv 0) (pa_cons (qty (by rfl) T.b_str (by decide +kernel)) pa_nil))) (pe_one (pe_cmpR op_eq (pv 0) (pv 1) (nomark _)))))) (pss_nil))
      (pss_cons (ps_if (ptT (pe_callB call_isi (by rfl) T.b_isinstance (by decide +kernel) (pa_cons (pv 1) (pa_cons (qty (by rfl) T.b_tuple (by decide +kernel)) pa_nil)))) (pss_one (ps_ret (pe_andT (pe_callB call_isi (by rfl) T.b_isinstance (by decide +kernel) (pa_cons (pv 0) (pa_cons (qty (by rfl) T.b_tuple (by decide +kernel)) pa_nil))) (pe_one (qc L.h10 (hr.mono (by omega)) (by rfl) (pa_cons (pv 0) (pa_cons (pv 1) (pa_nil)))))))) (pss_nil))
      (pss_cons (ps_if (ptT (pe_callB call_isi (by rfl) T.b_isinstance (by decide +kernel) (pa_cons (pv 1) (pa_cons (qty (by rfl) T.b_list (by decide +kernel)) pa_nil)))) (pss_one (ps_ret (pe_andT (pe_callB call_isi (by rfl) T.b_isinstance (by decide +kernel) (pa_cons (pv 0) (pa_cons (qty (by rfl) T.b_list (by decide +kernel)) pa_nil))) (pe_one (qc L.h10 (hr.mono (by omega)) (by rfl) (pa_cons (pv 0) (pa_cons (pv 1) (pa_nil)))))))) (pss_nil))
      (pss_never))))))
theorem ok11 (F : FnP K "_law_same" t11 f fd) (mf : mg "_law_same" = some (.ref f)) (T : Txt e_SHAPES n_SHAPES K w (cn K w ta) mg) (Bs : Base (cn K w ta) (par (Φ n))) (L : Lv P w K mg base (cn K w ta) CE n) : Cal P w K mg base (3 * (n + 1)) "_law_same" ["actual", "expected"] (spD (cn K w ta) (Φ (n + 1) 11) false) := ⟨f, fd, okF11 F T Bs L, mf, F.kp, F.bindsN fun _ _ _ _ _ _ us hl => match us, hl with | [_, _], _ => rfl⟩
theorem sc12 : FnScope ["tape", "name", "goal", "choices", "menu", "k"] ["tape"] (defScope t12) := ⟨rfl, rfl, rfl, by decide +kernel, rfl, by decide +kernel, by decide +kernel⟩
theorem okF12 (F : FnP K "_law_instruction" t12 f fd) (T : Txt e_SHAPES n_SHAPES K w (cn K w ta) mg) (Bs : Base (cn K w ta) (par (Φ n))) (L : Lv P w K mg base (cn K w ta) CE n) : FnOk P w K mg base CX0 (3 * (n + 1)) f fd ["tape"] (spD (cn K w ta) (Φ (n + 1) 12) false) := by
  refine F.ok (k := 3 * n + 2) sc12 (fun vs H Q E h => spD_len (n := 1) (fun ds s r e => runF_len e) h) (fun cdv A outer s H vs Q E hr h => ⟨rdS (cn K w ta) (par (Φ n)) (fun _ _ => False) b12, PSs.nox ?_, run_ok (f := f12) Bs (by rfl) (by decide) h⟩)
  have S := sc12
  have hu := hu_of hr
  dsimp only [b12, rdS, rd, mkR, rdO, rdBa, rdIt, rdG, rdC, gsN, keyP, rKin]
  exact pss_cons (ps_set (i := 1) S.nd (by rfl) (by exact Or.inr rfl) (pe_ix ix_seq (pe_lst (pa_cons (qs (by decide +kernel)) (pa_cons (qs (by decide +kernel)) (pa_cons (qs (by decide +kernel)) (pa_nil))))) (qc L.h8 (hr.mono (by omega)) (by rfl) (pa_cons (pv 0) (pa_cons (pe_int) (pa_nil)))) (by exact fun _ _ => rfl)))
      (pss_cons (ps_set (i := 2) S.nd (by rfl) (by exact Or.inr rfl) (pe_ix ix_seq (pe_lst (pa_cons (pe_int) (pa_cons (pe_int) (pa_cons (pe_int) (pa_nil))))) (qc L.h8 (hr.mono (by omega)) (by rfl) (pa_cons (pv 0) (pa_cons (pe_int) (pa_nil)))) (by exact fun _ _ => rfl)))
      (pss_cons (ps_set (i := 3) S.nd (by rfl) (by exact Or.inl rfl) (pe_callTy (call_tuple_of) (by rfl) T.b_tuple (by decide +kernel) (pa_cons (pe_lc (own := [("k", 5)]) (by rfl) S.nd (pi_range1 (by rfl) T.b_range (pa_cons (pe_op opAdd (pe_int) (qc L.h8 (hr.mono (by omega)) (by rfl) (pa_cons (pv 0) (pa_cons (pe_int) (pa_nil))))) (pa_nil))) (by exact blkOk_by (by rfl)) (fun _ _ _ _ _ => pg_name (i := 5) S.nd (by rfl) (by first | exact Or.inl rfl | exact Or.inr rfl)) (fun _ _ _ _ _ => pts_nil) (fun _ _ _ _ _ => pe_tup (pa_cons (pe_ix ix_seq (pe_lst (pa_cons (qs (by decide +kernel)) (pa_cons (qs (by decide +kernel)) (pa_cons (qs (by decide +kernel)) (pa_nil))))) (pv 5) (by exact fun _ _ => rfl)) (pa_cons (pv 1) (pa_cons (pv 2) (pa_nil)))))) pa_nil)))
      (pss_cons (ps_set (i := 4) S.nd (by rfl) (by exact Or.inl rfl) (pe_lst (pa_cons (pe_tup (pa_cons (qs (by decide +kernel)) (pa_cons (pv 2) (pa_nil)))) (pa_cons (pe_tup (pa_cons (qs (by decide +kernel)) (pa_cons (pv 1) (pa_nil)))) (pa_cons (pe_tup (pa_cons (qs (by decide +kernel)) (pa_cons (pv 1) (pa_nil)))) (pa_cons (pe_tup (pa_cons (qs (by decide +kernel)) (pa_nil))) (pa_cons (pe_tup (pa_cons (qs (by decide +kernel)) (pa_nil))) (pa_cons (pe_tup (pa_cons (qs (by decide +kernel)) (pa_nil))) (pa_cons (pe_tup (pa_cons (qs (by decide +kernel)) (pa_nil))) (pa_cons (pe_tup (pa_cons (qs (by decide +kernel)) (pa_nil))) (pa_nil)))))))))))
      (pss_cons (ps_set (i := 4) S.nd (by rfl) (by exact Or.inl rfl) (pe_op opAdd (pv 4) (pe_lst (pa_cons (pe_tup (pa_cons (qs (by decide +kernel)) (pa_cons (pv 2) (pa_nil)))) (pa_cons (pe_tup (pa_cons (qs (by decide +kernel)) (pa_cons (pv 2) (pa_nil)))) (pa_cons (pe_tup (pa_cons (qs (by decide +kernel)) (pa_cons (qs (by decide +kernel)) (pa_cons (pv 1) (pa_nil))))) (pa_cons (pe_tup (pa_cons (qs (by decide +kernel)) (pa_cons (qs (by decide +kernel)) (pa_cons (pv 3) (pa_nil))))) (pa_cons (pe_tup (pa_cons (qs (by decide +kernel)) (pa_cons (pv 1) (pa_nil)))) (pa_nil)))))))))
      (pss_cons (ps_set (i := 4) S.nd (by rfl) (by exact Or.inl rfl) (pe_op opAdd (pv 4) (pe_lst (pa_cons (pe_tup (pa_cons (qs (by decide +kernel)) (pa_cons (pe_int) (pa_cons (pv 2) (pa_nil))))) (pa_cons (pe_tup (pa_cons (qs (by decide +kernel)) (pa_cons (pe_int) (pa_nil)))) (pa_cons (pe_tup (pa_cons (qs (by decide +kernel)) (pa_cons (pe_int) (pa_nil)))) (pa_cons (pe_tup (pa_cons (qs (by decide +kernel)) (pa_cons (pe_ix ix_seq (pe_lst (pa_cons (qs (by decide +kernel)) (pa_cons (qs (by decide +kernel)) (pa_nil)))) (qc L.h8 (hr.mono (by omega)) (by rfl) (pa_cons (pv 0) (pa_cons (pe_int) (pa_nil)))) (by exact fun _ _ => rfl)) (pa_nil)))) (pa_cons (pe_tup (pa_cons (qs (by decide +kernel)) (pa_nil))) (pa_nil)))))))))
      (pss_one (ps_ret (pe_ix ix_seq (pv 4) (qc L.h8 (hr.mono (by omega)) (by rfl) (pa_cons (pv 0) (pa_cons (pe_int) (pa_nil)))) (by exact fun _ _ => rfl)))))))))
theorem ok12 (F : FnP K "_law_instruction" t12 f fd) (mf : mg "_law_instruction" = some (.ref f)) (T : Txt e_SHAPES n_SHAPES K w (cn K w ta) mg) (Bs : Base (cn K w ta) (par (Φ n))) (L : Lv P w K mg base (cn K w ta) CE n) : Cal P w K mg base (3 * (n + 1)) "_law_instruction" ["tape"] (spD (cn K w ta) (Φ (n + 1) 12) false) := ⟨f, fd, okF12 F T Bs L, mf, F.kp, F.bindsN fun _ _ _ _ _ _ us hl => match us, hl with | [_], _ => rfl⟩
theorem sc13 : FnScope ["one", "words", "part", "choice"] ["one"] (defScope t13) := ⟨rfl, rfl, rfl, by decide +kernel, rfl, by decide +kernel, by decide +kernel⟩
theorem okF13 (F : FnP K "_law_line" t13 f fd) (T : Txt e_SHAPES n_SHAPES K w (cn K w ta) mg) (Bs : Base (cn K w ta) (par (Φ n))) (L : Lv P w K mg base (cn K w ta) CE n) : FnOk P w K mg base CX0 (3 * (n + 1)) f fd ["one"] (spD (cn K w ta) (Φ (n + 1) 13) false) := by
  refine F.ok (k := 3 * n + 2) sc13 (fun vs H Q E h => spD_len (n := 1) (fun ds s r e => runF_len e) h) (fun cdv A outer s H vs Q E hr h => ⟨rdS (cn K w ta) (par (Φ n)) (fun _ _ => False) b13, PSs.nox ?_, run_ok (f := f13) Bs (by rfl) (by decide) h⟩)
  have S := sc13
  have hu := hu_of hr
  dsimp only [b13, rdS, rd, mkR, rdO, rdBa, rdIt, rdG, rdC, gsN, keyP, rKin]
  exact pss_cons (ps_set (i := 1) S.nd (by rfl) (by exact Or.inl rfl) (pe_lst (pa_cons (pe_ix ix_seq (pv 0) (pe_int) (by exact fun _ _ => rfl)) (pa_nil))))
      (pss_cons (ps_for PassesOwn.never (by rfl) (pi_tup (pe_slice sl_tup (pv 0) (po_some (pe_int)) (po_none))) (pg_name (i := 2) S.nd (by rfl) (by exact Or.inl rfl)) (pss_one (ps_if (ptT (pe_callB call_isi (by rfl) T.b_isinstance (by decide +kernel) (pa_cons (pv 2) (pa_cons (qty (by rfl) T.b_tuple (by decide +kernel)) pa_nil)))) (pss_one (ps_for PassesOwn.never (by rfl) (pi_tup (pv 2)) (pg_name (i := 3) S.nd (by rfl) (by exact Or.inl rfl)) (pss_one (ps_set (i := 1) S.nd (by rfl) (by exact Or.inl rfl) (pe_op opAdd (pv 1) (pe_lst (pa_cons (pe_ix ix_seq (pv 3) (pe_int) (by exact fun _ _ => rfl)) (pa_cons (pe_ix ix_seq (pv 3) (pe_int) (by exact fun _ _ => rfl)) (pa_cons (pe_callTy (cStr) (by rfl) T.b_str (by decide +kernel) (pa_cons (pe_ix ix_seq (pv 3) (pe_int) (by exact fun _ _ => rfl)) pa_nil)) (pa_nil)))))))))) (pss_one (ps_expr (pe_bm PySem.F.plainAttrs_list PySem.F.slot_list_append PySem.F.type_list_append mt_append (pv 1) (pa_cons (pe_callTy (cStr) (by rfl) T.b_str (by decide +kernel) (pa_cons (pv 2) pa_nil)) pa_nil)))))))
      (pss_one (ps_ret (pe_op opAdd (pe_bm PySem.F.plainAttrs_str PySem.F.slot_str_join PySem.F.type_str_join mt_join (qs (by decide +kernel)) (pa_cons (pv 1) (pa_nil))) (qs (by decide +kernel))))))
theorem ok13 (F : FnP K "_law_line" t13 f fd) (mf : mg "_law_line" = some (.ref f)) (T : Txt e_SHAPES n_SHAPES K w (cn K w ta) mg) (Bs : Base (cn K w ta) (par (Φ n))) (L : Lv P w K mg base (cn K w ta) CE n) : Cal P w K mg base (3 * (n + 1)) "_law_line" ["one"] (spD (cn K w ta) (Φ (n + 1) 13) false) := ⟨f, fd, okF13 F T Bs L, mf, F.kp, F.bindsN fun _ _ _ _ _ _ us hl => match us, hl with | [_], _ => rfl⟩
theorem sc14 : FnScope ["tape", "text", "k", "more"] ["tape", "text"] (defScope t14) := ⟨rfl, rfl, rfl, by decide +kernel, rfl, by decide +kernel, by decide +kernel⟩
theorem okF14 (F : FnP K "_law_bent" t14 f fd) (T : Txt e_SHAPES n_SHAPES K w (cn K w ta) mg) (Bs : Base (cn K w ta) (par (Φ n))) (L : Lv P w K mg base (cn K w ta) CE n) : FnOk P w K mg base CX0 (3 * (n + 1)) f fd ["tape", "text"] (spD (cn K w ta) (Φ (n + 1) 14) false) := by
  refine F.ok (k := 3 * n + 2) sc14 (fun vs H Q E h => spD_len (n := 2) (fun ds s r e => runF_len e) h) (fun cdv A outer s H vs Q E hr h => ⟨rdS (cn K w ta) (par (Φ n)) (fun _ _ => False) b14, PSs.nox ?_, run_ok (f := f14) Bs (by rfl) (by decide) h⟩)
  have S := sc14
  have hu := hu_of hr
  dsimp only [b14, rdS, rd, mkR, rdO, rdBa, rdIt, rdG, rdC, gsN, keyP, rKin]
  exact pss_cons (ps_set (i := 2) S.nd (by rfl) (by exact Or.inl rfl) (qc L.h8 (hr.mono (by omega)) (by rfl) (pa_cons (pv 0) (pa_cons (pe_op opAdd (pe_callB (call_len) (by rfl) T.b_len (by decide +kernel) (pa_cons (pv 1) pa_nil)) (pe_int)) (pa_nil)))))
      (pss_cons (ps_set (i := 3) S.nd (by rfl) (by exact Or.inl rfl) (pe_ix ix_seq (pe_lst (pa_cons (qs (by decide +kernel)) (pa_cons (qs (by decide +kernel)) (pa_cons (qs (by decide +kernel)) (pa_cons (qs (by decide +kernel)) (pa_cons (qs (by decide +kernel)) (pa_cons (qs (by decide +kernel)) (pa_cons (qs (by decide +kernel)) (pa_cons (qs (by decide +kernel)) (pa_cons (qs (by decide +kernel)) (pa_cons (qs (by decide +kernel)) (pa_cons (qs (by decide +kernel)) (pa_cons (qs (by decide +kernel)) (pa_nil)))))))))))))) (qc L.h8 (hr.mono (by omega)) (by rfl) (pa_cons (pv 0) (pa_cons (pe_int) (pa_nil)))) (by exact fun _ _ => rfl)))
      (pss_cons (ps_if (pt_cmpR op_eq (qc L.h8 (hr.mono (by omega)) (by rfl) (pa_cons (pv 0) (pa_cons (pe_int) (pa_nil)))) (pe_int) (nomark _)) (pss_one (ps_ret (pe_slice sl_str (pv 1) (po_none) (po_some (qneg))))) (pss_nil))
      (pss_one (ps_ret (pe_op opAdd (pe_op opAdd (pe_slice sl_str (pv 1) (po_none) (po_some (pv 2))) (pv 3)) (pe_slice sl_str (pv 1) (po_some (pe_op opAdd (pv 2) (qc L.h8 (hr.mono (by omega)) (by rfl) (pa_cons (pv 0) (pa_cons (pe_int) (pa_nil)))))) (po_none)))))))
theorem ok14 (F : FnP K "_law_bent" t14 f fd) (mf : mg "_law_bent" = some (.ref f)) (T : Txt e_SHAPES n_SHAPES K w (cn K w ta) mg) (Bs : Base (cn K w ta) (par (Φ n))) (L : Lv P w K mg base (cn K w ta) CE n) : Cal P w K mg base (3 * (n + 1)) "_law_bent" ["tape", "text"] (spD (cn K w ta) (Φ (n + 1) 14) false) := ⟨f, fd, okF14 F T Bs L, mf, F.kp, F.bindsN fun _ _ _ _ _ _ us hl => match us, hl with | [_, _], _ => rfl⟩
theorem sc15 : FnScope ["text", "e"] ["text"] (defScope t15) := ⟨rfl, rfl, rfl, by decide +kernel, rfl, by decide +kernel, by decide +kernel⟩
theorem sc16 : FnScope ["script", "tape", "k", "code", "text", "bent", "word", "told", "starts", "start", "line", "one", "j"] ["script"] (defScope t16) := ⟨rfl, rfl, rfl, by decide +kernel, rfl, by decide +kernel, by decide +kernel⟩
theorem okF16 (F : FnP K "law" t16 f fd) (T : Txt e_SHAPES n_SHAPES K w (cn K w ta) mg) (Bs : Base (cn K w ta) (par (Φ n))) (L : Lv P w K mg base (cn K w ta) CE n) : FnOk P w K mg base CX0 (3 * (n + 1)) f fd ["script"] (spD (cn K w ta) (Φ (n + 1) 16) false) := by
  refine F.ok (k := 3 * n + 2) sc16 (fun vs H Q E h => spD_len (n := 1) (fun ds s r e => runF_len e) h) (fun cdv A outer s H vs Q E hr h => ⟨rdS (cn K w ta) (par (Φ n)) (fun _ _ => False) b16, PSs.nox ?_, run_ok (f := f16) Bs (by rfl) (by decide) h⟩)
  have S := sc16
  have hu := hu_of hr
  dsimp only [b16, rdS, rd, mkR, rdO, rdBa, rdIt, rdG, rdC, gsN, keyP, rKin]
  exact pss_cons (ps_set (i := 1) S.nd (by rfl) (by exact Or.inr rfl) (qc L.h7 (hr.mono (by omega)) (by rfl) (pa_cons (pv 0) (pa_nil))))
      (pss_cons (ps_set (i := 3) S.nd (by rfl) (by exact Or.inl rfl) (pe_callTy (call_tuple_of) (by rfl) T.b_tuple (by decide +kernel) (pa_cons (pe_lc (own := [("k", 2)]) (by rfl) S.nd (pi_range1 (by rfl) T.b_range (pa_cons (qc L.h8 (hr.mono (by omega)) (by rfl) (pa_cons (pv 1) (pa_cons (pe_int) (pa_nil)))) (pa_nil))) (by exact blkOk_by (by rfl)) (fun _ _ _ _ _ => pg_name (i := 2) S.nd (by rfl) (by first | exact Or.inl rfl | exact Or.inr rfl)) (fun _ _ _ _ _ => pts_nil) (fun _ _ _ _ _ => qc L.h12 (hr.mono (by omega)) (by rfl) (pa_cons (pv 1) (pa_nil)))) pa_nil)))
      (pss_cons (ps_set (i := 4) S.nd (by rfl) (by exact Or.inl rfl) (pe_bm PySem.F.plainAttrs_str PySem.F.slot_str_join PySem.F.type_str_join mt_join (qs (by decide +kernel)) (pa_cons (pe_lc (own := [("one", 11)]) (by rfl) S.nd (pi_tup (pv 3)) (by exact blkOk_by (by rfl)) (fun _ _ _ _ _ => pg_name (i := 11) S.nd (by rfl) (by first | exact Or.inl rfl | exact Or.inr rfl)) (fun _ _ _ _ _ => pts_nil) (fun _ _ _ _ _ => qc L.h13 (hr.mono (by omega)) (by rfl) (pa_cons (pv 11) (pa_nil)))) (pa_nil))))
      (pss_cons (ps_if (PW.pt (pw_or (pt_not (ptT (qc L.h11 (hr.mono (by omega)) (by rfl) (pa_cons (qc L.h1 (hr.mono (by omega)) (by rfl) (pa_cons (pv 3) (pa_nil))) (pa_cons (pv 4) (pa_nil)))))) (pw_or1 (pt_not (ptT (qc L.h11 (hr.mono (by omega)) (by rfl) (pa_cons (qcx (okX6 _) L.h6 (hr.mono (by omega)) (by rfl) (pa_cons (pv 4) (pa_nil))) (pa_cons (pv 3) (pa_nil))))))))) (pss_one (ps_ret (pe_bl))) (pss_nil))
      (pss_cons (ps_for PassesOwn.never (by rfl) (pi_range1 (by rfl) T.b_range (pa_cons (pe_int) (pa_nil))) (pg_name (i := 2) S.nd (by rfl) (by exact Or.inl rfl)) (pss_cons (ps_set (i := 5) S.nd (by rfl) (by exact Or.inr rfl) (qc L.h14 (hr.mono (by omega)) (by rfl) (pa_cons (pv 1) (pa_cons (pv 4) (pa_nil)))))
      (pss_cons (ps_asg (qc L.h15 (hr.mono (by omega)) (by rfl) (pa_cons (pv 5) (pa_nil))) (pg_tup (by rfl) (pgs_cons (pg_name (i := 6) S.nd (by rfl) (by exact Or.inl rfl)) (pgs_cons (pg_name (i := 7) S.nd (by rfl) (by exact Or.inl rfl)) (pgs_nil)))))
      (pss_cons (ps_if (pt_cmpR op_eq (pv 6) (qs (by decide +kernel)) (nomark _)) (pss_cons (ps_if (pt_not (ptT (qc L.h11 (hr.mono (by omega)) (by rfl) (pa_cons (pe_bm PySem.F.plainAttrs_str PySem.F.slot_str_join PySem.F.type_str_join mt_join (qs (by decide +kernel)) (pa_cons (pe_lc (own := [("one", 11)]) (by rfl) S.nd (pi_tup (pv 7)) (by exact blkOk_by (by rfl)) (fun _ _ _ _ _ => pg_name (i := 11) S.nd (by rfl) (by first | exact Or.inl rfl | exact Or.inr rfl)) (fun _ _ _ _ _ => pts_nil) (fun _ _ _ _ _ => qc L.h13 (hr.mono (by omega)) (by rfl) (pa_cons (pv 11) (pa_nil)))) (pa_nil))) (pa_cons (pv 5) (pa_nil)))))) (pss_one (ps_ret (pe_bl))) (pss_nil))
      (pss_one (ps_continue))) (pss_nil))
      (pss_cons (ps_set (i := 8) S.nd (by rfl) (by exact Or.inl rfl) (pe_op opAdd (pe_lst (pa_cons (pe_int) (pa_nil))) (pe_lc (own := [("j", 12)]) (by rfl) S.nd (pi_range1 (by rfl) T.b_range (pa_cons (pe_callB (call_len) (by rfl) T.b_len (by decide +kernel) (pa_cons (pv 5) pa_nil)) (pa_nil))) (by exact blkOk_by (by rfl)) (fun _ _ _ _ _ => pg_name (i := 12) S.nd (by rfl) (by first | exact Or.inl rfl | exact Or.inr rfl)) (fun _ _ _ _ _ => pts_one (pt_cmpR op_eq (pe_ix ix_seq (pv 5) (pv 12) (by exact fun _ _ => rfl)) (qs (by decide +kernel)) (nomark _))) (fun _ _ _ _ _ => pe_op opAdd (pv 12) (pe_int)))))
      (pss_cons (ps_if (PW.pt (pw_and (pt_cmpR op_ne (pv 7) (pe_callB (call_len) (by rfl) T.b_len (by decide +kernel) (pa_cons (pv 5) pa_nil)) (nomark _)) (pw_and1 (pt_cmpR opNotIn (pv 7) (pv 8) (by rfl))))) (pss_one (ps_ret (pe_bl))) (pss_nil))
      (pss_cons (ps_if (PW.pt (pw_and (pt_cmpR op_eq (pv 7) (pe_callB (call_len) (by rfl) T.b_len (by decide +kernel) (pa_cons (pv 5) pa_nil)) (nomark _)) (pw_and1 (pt_cmpR op_eq (pe_slice sl_str (pv 5) (po_some (qneg)) (po_none)) (qs (by decide +kernel)) (nomark _))))) (pss_one (ps_ret (pe_bl))) (pss_nil))
      (pss_cons (ps_set (i := 9) S.nd (by rfl) (by exact Or.inl rfl) (pe_ifExp (pt_cmpR opIn (pv 7) (pv 8) (by rfl)) (pv 7) (pe_ix ix_seq (pv 8) (qneg) (by exact fun _ _ => rfl))))
      (pss_cons (ps_if (pt_cmpR op_ne (pe_ix ix_seq (qc L.h15 (hr.mono (by omega)) (by rfl) (pa_cons (pe_slice sl_str (pv 5) (po_none) (po_some (pv 9))) (pa_nil))) (pe_int) (by exact fun _ _ => rfl)) (qs (by decide +kernel)) (nomark _)) (pss_one (ps_ret (pe_bl))) (pss_nil))
      (pss_one (ps_if (PW.pt (pw_and (pt_cmpR opIn (pv 7) (pv 8) (by rfl)) (pw_and1 (pt_cmpR op_lt (pv 7) (pe_callB (call_len) (by rfl) T.b_len (by decide +kernel) (pa_cons (pv 5) pa_nil)) (nomark _))))) (pss_cons (ps_set (i := 10) S.nd (by rfl) (by exact Or.inl rfl) (pe_op opAdd (pe_ix ix_seq (pe_bm PySem.F.plainAttrs_str PySem.F.slot_str_split PySem.F.type_str_split mt_split (pe_slice sl_str (pv 5) (po_some (pv 7)) (po_none)) (pa_cons (qs (by decide +kernel)) (pa_nil))) (pe_int) (by exact fun _ _ => rfl)) (qs (by decide +kernel))))
      (pss_one (ps_if (pt_cmpR opIn (pv 10) (pe_lc (own := [("one", 11)]) (by rfl) S.nd (pi_tup (pv 3)) (by exact blkOk_by (by rfl)) (fun _ _ _ _ _ => pg_name (i := 11) S.nd (by rfl) (by first | exact Or.inl rfl | exact Or.inr rfl)) (fun _ _ _ _ _ => pts_nil) (fun _ _ _ _ _ => qc L.h13 (hr.mono (by omega)) (by rfl) (pa_cons (pv 11) (pa_nil)))) (by rfl)) (pss_one (ps_ret (pe_bl))) (pss_nil)))) (pss_nil))))))))))))
      (pss_one (ps_ret (pe_bl)))))))
theorem ok16 (F : FnP K "law" t16 f fd) (mf : mg "law" = some (.ref f)) (T : Txt e_SHAPES n_SHAPES K w (cn K w ta) mg) (Bs : Base (cn K w ta) (par (Φ n))) (L : Lv P w K mg base (cn K w ta) CE n) : Cal P w K mg base (3 * (n + 1)) "law" ["script"] (spD (cn K w ta) (Φ (n + 1) 16) false) := ⟨f, fd, okF16 F T Bs L, mf, F.kp, F.bindsN fun _ _ _ _ _ _ us hl => match us, hl with | [_], _ => rfl⟩
end
end G
set_option Elab.async false
set_option linter.all false
set_option maxRecDepth 100000
set_option maxHeartbeats 4000000
/-! _law_read: the one try of the text. -/
namespace G
open PySem PySem.Spec PyProof.Rows L2 DL
section
variable {P : Program} {w : World} {K : PySem.W.Frag} {mg : Str → Option Value} {base : Heap} {ta : Nat → Addr} {CE : Addr} {n : Nat} {f : Addr} {fd : FuncData} {e_SHAPES : Array DictEntry} {n_SHAPES : Nat}
def tsR (CE : Addr) : Addr → Value → Option Addr → TS := fun a cls d => tRet (tTup (tCons (tC (.str (cps [119, 114, 111, 110, 103]))) (tCons (tXf a cls d CE "start" (tVar 1)) tNil)))
def tbR (C : Cn) (CE : Addr) (n : Nat) : WX → TS := fun W => tRet (tTup (tCons (tC (.str (cps [99, 111, 100, 101]))) (tCons (tCallS (spX C (ΦX n 6) (wish "start" CE)) (WE W) (tCons (tVar 0) tNil)) tNil)))
def tRd (C : Cn) (CE : Addr) (n : Nat) : TS := fun D σ H => tbR C CE n (wAs C.K (.ref CE) 1 (tsR CE) (fun _ _ _ _ => False) D) D σ H
theorem takes0 {X : Cx} : Takes X (fun _ _ _ _ => False) := fun u s' ⟨a, B, sI, pins, σ, H, cls, d, e, I, nb, up, sky, na, os, ag, h⟩ => h.elim
theorem len15 {ds : List D} {s : Ss} {r : D × Ss} (h : Φ (n + 1) 15 ds s = some r) : ds.length = 1 := by
  have h : (match ΦX n 6 ds s with | some (.inl v, s2) => some (.tup [.str [99, 111, 100, 101], v], s2) | some (.inr v, s2) => some (.tup [.str [119, 114, 111, 110, 103], v], s2) | none => none) = some r := h
  cases n with
  | zero => cases h
  | succ n =>
    cases e : ΦX (n + 1) 6 ds s with
    | none => rw [e] at h; cases h
    | some z => exact runX_len (P := par (Φ n)) (f := f6) e
theorem pure15 {vs : List V} {H : Hp} {Q : VK} {E : XK} (xm : PySem.W.exmOne K (.ref CE) (.ref CE) = some true) (h : spD (cn K w ta) (Φ (n + 1) 15) false vs H Q E) :
    tRd (cn K w ta) CE n { nx := fun _ H' => Q .non H', rt := Q } (L2.start ["text", "e"] vs) H := by
  have hl := spD_len (n := 1) (fun ds s r e => len15 e) h
  match vs, hl with
  | [v0], _ =>
  obtain ⟨θ, B, Γ, s, ds, d, s', W0, r, e, p⟩ := h
  have e : (match ΦX n 6 ds s with | some (.inl v, s2) => some (D.tup [.str [99, 111, 100, 101], v], s2) | some (.inr v, s2) => some (.tup [.str [119, 114, 111, 110, 103], v], s2) | none => none) = some (d, s') := e
  have p : Post (cn K w ta) θ B Γ H s s' d Q := p
  show ∃ v, (L2.start ["text", "e"] [v0])[0]? = some (some v) ∧ _
  refine ⟨v0, rfl, ?_⟩
  show spX (cn K w ta) (ΦX n 6) (wish "start" CE) [v0] H _ _
  cases ex : ΦX n 6 ds s with
  | none => rw [ex] at e; cases e
  | some z =>
    obtain ⟨z, s2⟩ := z
    rw [ex] at e
    cases z with
    | inl v =>
      cases e
      refine ⟨θ, B, Γ, s, ds, .inl v, s', W0, r, ex, ?_⟩
      show Post _ _ _ _ _ _ _ _ _
      refine fun v' θ' B' Γ' H' g rv => ⟨by show 2 ≤ sizeLine; decide, fun p0 hp => ?_⟩
      exact p _ _ _ _ _ (g.trans (Gr.new g.wd hp)) (.tup (sqT_of upd_same) (.cons (.str _ rfl) (.cons (rv.mono (same_upd (g.wd.gfree hp)) fun _ _ z => z) .nil)))
    | inr v =>
      cases e
      refine ⟨θ, B, Γ, s, ds, .inr v, s', W0, r, ex, ?_⟩
      show Post _ _ _ _ _ _ _ _ _
      refine fun v' θ' B' Γ' H' g rv dx hd => ?_
      refine ⟨true, xm, fun _ a ha => ?_, fun z => nomatch z⟩
      show ∃ v, _
      refine ⟨.ref a, rfl, rfl, rfl, dx, _, v', rfl, upd_same, by simp [List.lookup], by show 2 ≤ sizeLine; decide, fun p0 hp => ?_⟩
      have g2 := g.trans (Gr.put g.wd (o := .xd [("start", v')]) hd)
      exact p _ _ _ _ _ (g2.trans (Gr.new g2.wd hp)) (.tup (sqT_of upd_same) (.cons (.str _ rfl) (.cons (rv.mono (same_upd (g2.wd.gfree hp)) fun _ _ z => z) .nil)))
theorem ok15 (F : FnP K "_law_read" t15 f fd) (mf : mg "_law_read" = some (.ref f)) (X0 : ExP P w K mg base "SyntaxProblem" "start" CE) (L : Lv P w K mg base (cn K w ta) CE n) : Cal P w K mg base (3 * (n + 1)) "_law_read" ["text"] (spD (cn K w ta) (Φ (n + 1) 15) false) := by
  obtain ⟨fI, fdI, psI, XT, _, _⟩ := id X0.ex
  refine ⟨f, fd, F.ok (k := 3 * n + 2) sc15 (fun vs H Q E h => spD_len (n := 1) (fun ds s r e => len15 e) h) (fun cdv A outer s H vs Q E hr h => ⟨tRd (cn K w ta) CE n, PSs.nox ?_, pure15 XT.te h⟩), mf, F.kp, F.bindsN fun _ _ _ _ _ _ us hl => match us, hl with | [_], _ => rfl⟩
  have S := sc15
  exact pss_one (ps_try_as (i := 1) (tb := tbR (cn K w ta) CE n) (ts := tsR CE) (Wout := fun _ _ _ _ => False) rfl rfl S.nd rfl rfl ⟨rfl, by decide, Or.inl XT.gC⟩ takes0
    (fun W pn xe tk _ => pss_one (ps_ret (pe_tup (pa_cons (qs (by decide +kernel)) (pa_cons (by exact (qcxS (C := cn K w ta) (φ := ΦX n 6) (W := wish "start" CE) L.h6 tk (hr.mono (by omega)) rfl (pa_cons (pv 0) pa_nil))) pa_nil)))))
    (fun a oe cls d pn hz hf => pss_one (ps_ret (pe_tup (pa_cons (qs (by decide +kernel)) (pa_cons (by exact (pe_xf XT.xf XT.no hz hf (pv 1))) pa_nil))))))
end
end G
set_option Elab.async false
set_option linter.all false
set_option maxRecDepth 100000
set_option maxHeartbeats 0
/-! The head by facts, the levels (printed by gen.py). -/
namespace G
open PySem PySem.Spec PyProof.Rows L2 DL
def clsBody : Stmt → List Stmt
  | .ClassDef _ _ _ b _ _ _ _ _ _ _ => b
  | _ => []
abbrev tI : Stmt := (clsBody (top 4)).getD 0 (.Pass ⟨0, 0, 0, 0⟩)
theorem scI : FnScope ["self", "start"] ["self", "start"] (defScope tI) := ⟨rfl, rfl, rfl, by decide +kernel, rfl, by decide +kernel, by decide +kernel⟩
theorem okI {P : Program} {w : World} {K : PySem.W.Frag} {mg : Str → Option Value} {base : Heap} {C f : Addr} {fd : FuncData} (F : FunD K "__init__" "SyntaxProblem.__init__" (defArgs tI) (defBody tI) (defScope tI) [] [] f fd) (XT : ExT K mg "SyntaxProblem" "start" C f) : ExP P w K mg base "SyntaxProblem" "start" C := by
  refine ⟨f, fd, ["self", "start"], XT, F.ok (k := 0) scI (fun vs H Q E h => spIni_len h) (fun cdv A outer s H vs Q E hr h => ⟨tOst K "start" (tVar 0) (tVar 1), PSs.nox ?_, ?_⟩), F.bindsN fun _ _ _ _ _ _ us hl => match us, hl with | [_, _], _ => rfl⟩
  · have S := scI
    exact pss_one (ps_ost (pv 0) (pv 1))
  · obtain ⟨a, v, rfl, ha, q⟩ := h
    exact ⟨v, rfl, .ref a, rfl, a, C, rfl, XT.o, XT.no, Or.inl ⟨ha, q⟩⟩
def dd0 : He.DefD := ⟨("write_instruction", none), "write_instruction", "write_instruction", defArgs t0, defBody t0, defScope t0, [], []⟩
def dd1 : He.DefD := ⟨("write_code", none), "write_code", "write_code", defArgs t1, defBody t1, defScope t1, [], []⟩
def dd2 : He.DefD := ⟨("is_name", none), "is_name", "is_name", defArgs t2, defBody t2, defScope t2, [], []⟩
def dd3 : He.DefD := ⟨("number", none), "number", "number", defArgs t3, defBody t3, defScope t3, [], []⟩
def dd4 : He.DefD := ⟨("read_choices", none), "read_choices", "read_choices", defArgs t4, defBody t4, defScope t4, [], []⟩
def dd5 : He.DefD := ⟨("read_line", none), "read_line", "read_line", defArgs t5, defBody t5, defScope t5, [], []⟩
def dd6 : He.DefD := ⟨("read_code", none), "read_code", "read_code", defArgs t6, defBody t6, defScope t6, [], []⟩
def dd7 : He.DefD := ⟨("_law_tape", none), "_law_tape", "_law_tape", defArgs t7, defBody t7, defScope t7, [], []⟩
def dd8 : He.DefD := ⟨("_law_take", none), "_law_take", "_law_take", defArgs t8, defBody t8, defScope t8, [], []⟩
def dd9 : He.DefD := ⟨("_law_is_integer", none), "_law_is_integer", "_law_is_integer", defArgs t9, defBody t9, defScope t9, [], []⟩
def dd10 : He.DefD := ⟨("_law_same_items", none), "_law_same_items", "_law_same_items", defArgs t10, defBody t10, defScope t10, [], []⟩
def dd11 : He.DefD := ⟨("_law_same", none), "_law_same", "_law_same", defArgs t11, defBody t11, defScope t11, [], []⟩
def dd12 : He.DefD := ⟨("_law_instruction", none), "_law_instruction", "_law_instruction", defArgs t12, defBody t12, defScope t12, [], []⟩
def dd13 : He.DefD := ⟨("_law_line", none), "_law_line", "_law_line", defArgs t13, defBody t13, defScope t13, [], []⟩
def dd14 : He.DefD := ⟨("_law_bent", none), "_law_bent", "_law_bent", defArgs t14, defBody t14, defScope t14, [], []⟩
def dd15 : He.DefD := ⟨("_law_read", none), "_law_read", "_law_read", defArgs t15, defBody t15, defScope t15, [], []⟩
def dd16 : He.DefD := ⟨("law", none), "law", "law", defArgs t16, defBody t16, defScope t16, [], []⟩
def ddI : He.DefD := ⟨("SyntaxProblem", some "__init__"), "__init__", "SyntaxProblem.__init__", defArgs tI, defBody tI, defScope tI, [], []⟩
def fn : List He.DefD := [dd0, dd1, dd2, dd3, dd4, dd5, dd6, dd7, dd8, dd9, dd10, dd11, dd12, dd13, dd14, dd15, dd16, ddI]
def fa : List He.Fa := [.glo "write_instruction", .glo "write_code", .glo "is_name", .glo "number", .glo "read_choices", .glo "read_line", .glo "read_code", .glo "_law_tape", .glo "_law_take", .glo "_law_is_integer", .glo "_law_same_items", .glo "_law_same", .glo "_law_instruction", .glo "_law_line", .glo "_law_bent", .glo "_law_read", .glo "law", .free "abs", .free "all", .free "bool", .free "int", .free "isinstance", .free "len", .free "list", .free "range", .free "str", .free "tuple", .free "zip", .int "SIZE" 4294967296, .glo "SHAPES", .str "DIGITS" "0123456789", .str "NAME_CHARACTERS" "abcdefghijklmnopqrstuvwxyzABCDEFGHIJKLMNOPQRSTUVWXYZ0123456789_"]
def tbs : List He.Tab := [(fun K => He.ga K "SHAPES", ["push", "load", "store", "add", "sub", "mul", "less", "same", "jump", "zero", "emit", "wait", "input", "round", "yes", "no", "test", "stop"])]
def exx (K : PySem.W.Frag) : Bool := DL.tabB K (He.ga K "SHAPES") tab0 && DL.exB K "SyntaxProblem" "start" && true
abbrev R : PySem.W.OpenRow := PySem.W.OpenLaw.row PySem.Challenge.rw_talkhouse_k35_texts_of_code
abbrev hk : PySem.W.Hook := He.hookX 5 fa fn tbs [] exx
def ob (s : PySem.W.SharedT) : He.AlX := He.obsX 5 fa fn tbs [] exx (HandSHeadRun.getT s)
theorem ob_eq (s : PySem.W.SharedT) : ob s = hk.obs s.abs := He.obsX_eq (HandSHeadRun.getT_eq s)
def loose : List PySem.Str := ["SIZE", "SHAPES", "ScoreError", "SyntaxProblem", "DIGITS", "NAME_CHARACTERS", "write_instruction", "write_code", "is_name", "number", "read_choices", "read_line", "read_code", "_law_tape", "_law_take", "_law_is_integer", "_law_same_items", "_law_same", "_law_instruction", "_law_line", "_law_bent", "_law_read"]
theorem runf (w : World) : HandSHeadRun.RunEq R (PySem.W.view R.prog [25]) hk ob 4000 loose (w.withFollow "special-get-raises" false) := by
  intro os
  kernel_rfl
theorem runt (w : World) : HandSHeadRun.RunEq R (PySem.W.view R.prog [25]) hk ob 4000 loose (w.withFollow "special-get-raises" true) := by
  intro os
  kernel_rfl
theorem run (w : World) : HandSHeadRun.RunEq R (PySem.W.view R.prog [25]) hk ob 4000 loose w := PySem.W.byRow2 "special-get-raises" (P := fun w => HandSHeadRun.RunEq R (PySem.W.view R.prog [25]) hk ob 4000 loose w) runf runt w
def taA (K : PySem.W.Frag) (t : Nat) : Addr := ([He.ga K "SHAPES"] : List Addr).getD t 0
abbrev CC (K : PySem.W.Frag) (w : World) : Cn := cn K w (taA K)
theorem base_ok {K : PySem.W.Frag} {w : World} (e_SHAPES : Array DictEntry) (n_SHAPES : Nat) (k0 : KDict K w (He.ga K "SHAPES") e_SHAPES n_SHAPES) (h0 : tabB K (He.ga K "SHAPES") tab0 = true) (n : Nat) : Base (CC K w) (par (Φ n)) where
  T := fun t ht z => by
    match t, ht with
    | 0, _ => exact ⟨fun d hd => let ⟨v, a, b⟩ := (tab_ok k0 h0 z).1 d hd; ⟨v, a, b _⟩, (tab_ok k0 h0 z).2⟩
    | t + 1, ht => exact absurd ht (by show ¬ t + 1 < 1; omega)
  F := fun f xs s d s2 h e => by
    cases n with
    | zero => cases e
    | succ n =>
      match f, h with
      | f, h => exact absurd h (by show ¬ (false = true); decide)
  nk := rfl
theorem facts {P : Program} {w : World} {K : PySem.W.Frag} {h : Heap} {mg : Str → Option Value} {f : Addr} (X : K.In h) (G : h.Ns mainGlobals mg) (hfa : mg ("law" : Str) = some (.ref f)) (c : He.SaysX fa fn tbs [] exx w h K) (n : Nat) :
    ∃ fd : FuncData, (∀ (s : Shared) (v : Value), BindsTo s fd ⟨[v], []⟩ [("script", v)]) ∧ ∀ base : Heap, K.In base → base.Ns mainGlobals mg → FnOk P w K mg base CX0 (3 * (n + 1)) f fd ["script"] (spD (CC K w) (Φ (n + 1) 16) false) := by
  have ex : exx K = true := c.more
  unfold exx at ex
  simp only [Bool.and_eq_true] at ex
  obtain ⟨⟨h0, hx⟩, _⟩ := ex
  obtain ⟨e_SHAPES, n_SHAPES, k0⟩ := c.t.tab 0
  have C := c.t.d
  obtain ⟨fd0, F0⟩ := C.def_ 0 (d := dd0) rfl
  have m0 := He.glo_ok X G (C.fact 0 (f := .glo "write_instruction") rfl)
  obtain ⟨fd1, F1⟩ := C.def_ 1 (d := dd1) rfl
  have m1 := He.glo_ok X G (C.fact 1 (f := .glo "write_code") rfl)
  obtain ⟨fd2, F2⟩ := C.def_ 2 (d := dd2) rfl
  have m2 := He.glo_ok X G (C.fact 2 (f := .glo "is_name") rfl)
  obtain ⟨fd3, F3⟩ := C.def_ 3 (d := dd3) rfl
  have m3 := He.glo_ok X G (C.fact 3 (f := .glo "number") rfl)
  obtain ⟨fd4, F4⟩ := C.def_ 4 (d := dd4) rfl
  have m4 := He.glo_ok X G (C.fact 4 (f := .glo "read_choices") rfl)
  obtain ⟨fd5, F5⟩ := C.def_ 5 (d := dd5) rfl
  have m5 := He.glo_ok X G (C.fact 5 (f := .glo "read_line") rfl)
  obtain ⟨fd6, F6⟩ := C.def_ 6 (d := dd6) rfl
  have m6 := He.glo_ok X G (C.fact 6 (f := .glo "read_code") rfl)
  obtain ⟨fd7, F7⟩ := C.def_ 7 (d := dd7) rfl
  have m7 := He.glo_ok X G (C.fact 7 (f := .glo "_law_tape") rfl)
  obtain ⟨fd8, F8⟩ := C.def_ 8 (d := dd8) rfl
  have m8 := He.glo_ok X G (C.fact 8 (f := .glo "_law_take") rfl)
  obtain ⟨fd9, F9⟩ := C.def_ 9 (d := dd9) rfl
  have m9 := He.glo_ok X G (C.fact 9 (f := .glo "_law_is_integer") rfl)
  obtain ⟨fd10, F10⟩ := C.def_ 10 (d := dd10) rfl
  have m10 := He.glo_ok X G (C.fact 10 (f := .glo "_law_same_items") rfl)
  obtain ⟨fd11, F11⟩ := C.def_ 11 (d := dd11) rfl
  have m11 := He.glo_ok X G (C.fact 11 (f := .glo "_law_same") rfl)
  obtain ⟨fd12, F12⟩ := C.def_ 12 (d := dd12) rfl
  have m12 := He.glo_ok X G (C.fact 12 (f := .glo "_law_instruction") rfl)
  obtain ⟨fd13, F13⟩ := C.def_ 13 (d := dd13) rfl
  have m13 := He.glo_ok X G (C.fact 13 (f := .glo "_law_line") rfl)
  obtain ⟨fd14, F14⟩ := C.def_ 14 (d := dd14) rfl
  have m14 := He.glo_ok X G (C.fact 14 (f := .glo "_law_bent") rfl)
  obtain ⟨fd15, F15⟩ := C.def_ 15 (d := dd15) rfl
  have m15 := He.glo_ok X G (C.fact 15 (f := .glo "_law_read") rfl)
  obtain ⟨fd16, F16⟩ := C.def_ 16 (d := dd16) rfl
  have m16 := He.glo_ok X G (C.fact 16 (f := .glo "law") rfl)
  obtain ⟨fdI, FI⟩ := C.def_ 17 (d := ddI) rfl
  have XT := exB_ok X G hx
  have T : Txt e_SHAPES n_SHAPES K w (CC K w) mg :=
    { b_abs := He.free_ok X G (C.fact 17 (f := .free "abs") rfl),
      b_all := He.free_ok X G (C.fact 18 (f := .free "all") rfl),
      b_bool := He.free_ok X G (C.fact 19 (f := .free "bool") rfl),
      b_int := He.free_ok X G (C.fact 20 (f := .free "int") rfl),
      b_isinstance := He.free_ok X G (C.fact 21 (f := .free "isinstance") rfl),
      b_len := He.free_ok X G (C.fact 22 (f := .free "len") rfl),
      b_list := He.free_ok X G (C.fact 23 (f := .free "list") rfl),
      b_range := He.free_ok X G (C.fact 24 (f := .free "range") rfl),
      b_str := He.free_ok X G (C.fact 25 (f := .free "str") rfl),
      b_tuple := He.free_ok X G (C.fact 26 (f := .free "tuple") rfl),
      b_zip := He.free_ok X G (C.fact 27 (f := .free "zip") rfl),
      c_SIZE := He.int_ok X G (C.fact 28 (f := .int "SIZE" 4294967296) rfl),
      c_SHAPES := He.glo_ok X G (C.fact 29 (f := .glo "SHAPES") rfl),
      k_SHAPES := k0,
      c_DIGITS := He.str_ok X G (C.fact 30 (f := .str "DIGITS" "0123456789") rfl),
      c_NAME_CHARACTERS := He.str_ok X G (C.fact 31 (f := .str "NAME_CHARACTERS" "abcdefghijklmnopqrstuvwxyzABCDEFGHIJKLMNOPQRSTUVWXYZ0123456789_") rfl) }
  have Bs := fun n => base_ok (K := K) (w := w) e_SHAPES n_SHAPES k0 h0 n
  have key : ∀ base : Heap, ∀ n, Lv P w K mg base (CC K w) (He.ga K "SyntaxProblem") n := by
    intro base n
    have X0 : ExP P w K mg base "SyntaxProblem" "start" (He.ga K "SyntaxProblem") := okI FI XT
    induction n with
    | zero =>
      exact {
        h0 := ⟨_, _, fnOk_none spD_none, m0, F0.kp, F0.bindsN fun _ _ _ _ _ _ us hl => match us, hl with | [_], _ => rfl⟩,
        h1 := ⟨_, _, fnOk_none spD_none, m1, F1.kp, F1.bindsN fun _ _ _ _ _ _ us hl => match us, hl with | [_], _ => rfl⟩,
        h2 := ⟨_, _, fnOk_none spD_none, m2, F2.kp, F2.bindsN fun _ _ _ _ _ _ us hl => match us, hl with | [_], _ => rfl⟩,
        h3 := ⟨_, _, fnOk_none spD_none, m3, F3.kp, F3.bindsN fun _ _ _ _ _ _ us hl => match us, hl with | [_], _ => rfl⟩,
        h4 := ⟨_, _, fnOk_none spD_none, m4, F4.kp, F4.bindsN fun _ _ _ _ _ _ us hl => match us, hl with | [_], _ => rfl⟩,
        h5 := ⟨_, _, fnOk_none spD_none, m5, F5.kp, F5.bindsN fun _ _ _ _ _ _ us hl => match us, hl with | [_], _ => rfl⟩,
        h6 := ⟨_, _, fnOk_none calX_none, m6, F6.kp, F6.bindsN fun _ _ _ _ _ _ us hl => match us, hl with | [_], _ => rfl⟩,
        h7 := ⟨_, _, fnOk_none spD_none, m7, F7.kp, F7.bindsN fun _ _ _ _ _ _ us hl => match us, hl with | [_], _ => rfl⟩,
        h8 := ⟨_, _, fnOk_none spD_none, m8, F8.kp, F8.bindsN fun _ _ _ _ _ _ us hl => match us, hl with | [_, _], _ => rfl⟩,
        h9 := ⟨_, _, fnOk_none spD_none, m9, F9.kp, F9.bindsN fun _ _ _ _ _ _ us hl => match us, hl with | [_], _ => rfl⟩,
        h10 := ⟨_, _, fnOk_none spD_none, m10, F10.kp, F10.bindsN fun _ _ _ _ _ _ us hl => match us, hl with | [_, _], _ => rfl⟩,
        h11 := ⟨_, _, fnOk_none spD_none, m11, F11.kp, F11.bindsN fun _ _ _ _ _ _ us hl => match us, hl with | [_, _], _ => rfl⟩,
        h12 := ⟨_, _, fnOk_none spD_none, m12, F12.kp, F12.bindsN fun _ _ _ _ _ _ us hl => match us, hl with | [_], _ => rfl⟩,
        h13 := ⟨_, _, fnOk_none spD_none, m13, F13.kp, F13.bindsN fun _ _ _ _ _ _ us hl => match us, hl with | [_], _ => rfl⟩,
        h14 := ⟨_, _, fnOk_none spD_none, m14, F14.kp, F14.bindsN fun _ _ _ _ _ _ us hl => match us, hl with | [_, _], _ => rfl⟩,
        h15 := ⟨_, _, fnOk_none spD_none, m15, F15.kp, F15.bindsN fun _ _ _ _ _ _ us hl => match us, hl with | [_], _ => rfl⟩,
        h16 := ⟨_, _, fnOk_none spD_none, m16, F16.kp, F16.bindsN fun _ _ _ _ _ _ us hl => match us, hl with | [_], _ => rfl⟩ }
    | succ n L =>
      exact {
        h0 := ok0 F0 m0 T (Bs n) L,
        h1 := ok1 F1 m1 T (Bs n) L,
        h2 := ok2 F2 m2 T (Bs n) L,
        h3 := ok3 F3 m3 T (Bs n) L,
        h4 := ok4 F4 m4 T (Bs n) L,
        h5 := ok5 F5 m5 T (Bs n) L,
        h6 := ok6 F6 m6 X0 T (Bs n) L,
        h7 := ok7 F7 m7 T (Bs n) L,
        h8 := ok8 F8 m8 T (Bs n) L,
        h9 := ok9 F9 m9 T (Bs n) L,
        h10 := ok10 F10 m10 T (Bs n) L,
        h11 := ok11 F11 m11 T (Bs n) L,
        h12 := ok12 F12 m12 T (Bs n) L,
        h13 := ok13 F13 m13 T (Bs n) L,
        h14 := ok14 F14 m14 T (Bs n) L,
        h15 := ok15 F15 m15 X0 L,
        h16 := ok16 F16 m16 T (Bs n) L }
  have e := hfa.symm.trans m16
  cases e
  have b := FunD.bindsA (ps := ["script"]) F16 fun _ _ _ _ _ _ us hl => match us, hl with | [_], _ => rfl
  exact ⟨fd16, fun s v => b s [v] rfl, fun base _ _ => okF16 F16 T (Bs n) (key base n)⟩
/-- the whole: what is left is plain -/
theorem whole (law : ∀ ns : List Int, ns.length ≤ 63 → ∃ s, Φ 20 16 [.lsk (ns.map .int)] [] = some (.bl true, s)) : (PySem.Challenge.rw_talkhouse_k35_texts_of_code).Holds := by
  w_on; o_law
  refine HandSHeadRun.head_any (r := PySem.W.OpenLaw.row PySem.Challenge.rw_talkhouse_k35_texts_of_code) (q := PySem.W.view (PySem.W.OpenLaw.row PySem.Challenge.rw_talkhouse_k35_texts_of_code).prog [25]) (H := hk) (ob := ob) (M := 4000) (loose := loose) (d := HandSHeadRun.topDef (PySem.W.OpenLaw.row PySem.Challenge.rw_talkhouse_k35_texts_of_code).prog 25) (kwd := []) ob_eq
    (by kernel_rfl) (fun s => by kernel_rfl) run (by kernel_rfl) (by kernel_rfl) (by kernel_rfl) (by rfl) (by first | assumption | decide +kernel) (by decide +kernel) ⟨rfl, rfl, rfl, rfl, rfl, by decide +kernel⟩ ?hw ?hc
  case hw => w_witness2
  case hc =>
    refine L2.walk_ofE (l := PySem.Challenge.rw_talkhouse_k35_texts_of_code) (n := 63) (k := 60) (x := "script") (CX := L2.CX0) rfl (by decide) (by kernel_rfl) ⟨rfl, by decide, by decide⟩ ?F (fun _ _ _ _ z => z)
    intro w mg fa h Y G hmg0
    obtain ⟨K, KX, c⟩ := Y
    have hmg : mg ("law" : PySem.Str) = some (.ref fa) := by
      have e : (HandSHeadRun.topDef (PySem.W.OpenLaw.row PySem.Challenge.rw_talkhouse_k35_texts_of_code).prog 25).name = ("law" : PySem.Str) := by kernel_rfl
      rw [← e]
      exact hmg0
    obtain ⟨fd, hb, hF⟩ := facts (P := (PySem.Challenge.rw_talkhouse_k35_texts_of_code).prog) (w := w) KX G hmg c 19
    exact ⟨K, fd, _, KX, hb, fun H a ns hl _ hS => law_sp (law ns hl) hS, hF⟩
end G
set_option Elab.async false
set_option linter.all false
set_option maxRecDepth 100000
set_option maxHeartbeats 4000000
/-! Rules for computing DL's meaning. -/
namespace DL
open PySem L2
variable {P : Par} {ρ ρ' : Env} {s s' s2 : Ss} {e c a b : E} {d : D} {i : Nat} {r : Option Out}
def cstep (P : Par) (tg : Tg) (own : List Nat) (c e : E) (ρ : Vw) : D → Ss → Option (Option D × Ss) := fun x s => (tgO tg x (wipeO ρ own)).bind fun ρ' => bnd (ev P c ρ' s) fun y s => match truC c y with
        | some true => bnd (ev P e ρ' s) fun z s => some (some z, s)
        | some false => some (none, s)
        | none => none
theorem cstep_nop {tg : Tg} {own : List Nat} {e : E} {ρ ρ' : Vw} {x z : D} (h : tgO tg x (wipeO ρ own) = some ρ') (h2 : ev P e ρ' s = some (z, s')) : cstep P tg own .nop e ρ x s = some (some z, s') := by
  unfold cstep
  rw [h]
  show bnd (ev P e ρ' s) _ = _
  rw [h2]; rfl
theorem ev_comp {k : Itk} {src : E} {tg : Tg} {own : List Nat} {c e : E} {ρ : Vw} {xs : List D} {o : List D × Ss} (h : ev P src ρ s = some (d, s')) (hi : items k d = some xs) (hl : xs.length ≤ SZ) (ht : tgIn tg own = true) (hc : compF (cstep P tg own c e ρ) xs s' = some o) :
    ev P (.comp k src tg own c e) ρ s = some (.lst o.1, o.2) := by
  show bnd (ev P src ρ s) _ = _
  rw [h]
  show (items k d).bind _ = _
  rw [hi]
  show (if _ then _ else _) = _
  rw [if_pos ⟨hl, ht⟩]
  show (compF (cstep P tg own c e ρ) xs s').map _ = _
  rw [hc]; rfl
theorem compF_map {step : D → Ss → Option (Option D × Ss)} {s : Ss} {g : D → D} : ∀ {xs : List D}, (∀ x ∈ xs, step x s = some (some (g x), s)) → compF step xs s = some (xs.map g, s)
  | [], _ => rfl
  | x :: r, h => by
    have h1 := h x (List.mem_cons_self ..)
    have ih := compF_map (step := step) (s := s) (g := g) (xs := r) fun y hy => h y (List.mem_cons_of_mem _ hy)
    simp only [compF, h1, ih]
    rfl
theorem dall_bl : ∀ bs : List Bool, dall (bs.map D.bl) = some (bs.all id)
  | [] => rfl
  | b :: r => by
    show (dall (r.map D.bl)).map (b && ·) = _
    rw [dall_bl r]
    rfl
theorem okc_of (h : s'.length = s.length) : okc ρ s s' = true := by unfold okc; rw [h]; simp
theorem b_ev {f : D → Ss → Option β} {x : Option (D × Ss)} (h : x = some (d, s)) : bnd x f = f d s := by rw [h]; rfl
/-! statements -/
theorem x_seq {a b : DL.S} (h : exec P a ρ s = some (.nx ρ' s')) (h2 : exec P b ρ' s' = r) : exec P (.seq a b) ρ s = r := by
  show (match exec P a ρ s with
    | some (.nx ρ' s') => exec P b ρ' s'
    | o => o) = _
  rw [h]; exact h2
theorem x_seqR {a b : DL.S} {f : Bool} (h : exec P a ρ s = some (.rt f d s')) : exec P (.seq a b) ρ s = some (.rt f d s') := by
  show (match exec P a ρ s with
    | some (.nx ρ' s') => exec P b ρ' s'
    | o => o) = _
  rw [h]
theorem x_seqX {a b : DL.S} (h : exec P a ρ s = some (.ex d s')) : exec P (.seq a b) ρ s = some (.ex d s') := by
  show (match exec P a ρ s with
    | some (.nx ρ' s') => exec P b ρ' s'
    | o => o) = _
  rw [h]
theorem x_seqC {a b : DL.S} (h : exec P a ρ s = some (.ct ρ' s')) : exec P (.seq a b) ρ s = some (.ct ρ' s') := by
  show (match exec P a ρ s with
    | some (.nx ρ' s') => exec P b ρ' s'
    | o => o) = _
  rw [h]
theorem x_skip : exec P .skip ρ s = some (.nx ρ s) := rfl
theorem k_pk (h : ev P e (vis ρ) s = some (d, s')) (hp : pur d = true) (hs : s'.length = s.length) : keep P .pk e ρ s = some (.frz d, s') := by
  show bnd (ev P e (vis ρ) s) _ = _
  rw [h]
  show (if pur d && okc ρ s s' then _ else _) = _
  rw [hp, okc_of hs]; rfl
theorem k_st (h : ev P e (hid ρ) s = some (d, s')) (hs : s'.length = s.length) : keep P .st e ρ s = some (.frz d, s') := by
  show bnd (ev P e (hid ρ) s) _ = _
  rw [h]
  show (if okc ρ s s' then _ else _) = _
  rw [okc_of hs]; rfl
theorem k_fr {ds : List D} (h : ev P e (vis ρ) s = some (.lst ds, s')) (hp : purs ds = true) (hf : fresh P e = true) (hs : s'.length = s.length) : keep P .fr e ρ s = some (.own ds, s') := by
  show bnd (ev P e (vis ρ) s) _ = _
  rw [h]
  show (if purs ds && (fresh P e && okc ρ s s') then _ else _) = _
  rw [hp, hf, okc_of hs]; rfl
theorem x_asg {m : Md} {x : Slot} (h : keep P m e ρ s = some (x, s')) (hi : i < ρ.length) : exec P (.asg i m e) ρ s = some (.nx (ρ.set i x) s') := by
  show (keep P m e ρ s).bind _ = _
  rw [h]
  show (setS ρ i x).map _ = _
  unfold setS
  rw [if_pos hi]; rfl
theorem x_pk (h : ev P e (vis ρ) s = some (d, s')) (hp : pur d = true) (hs : s'.length = s.length) (hi : i < ρ.length) : exec P (.asg i .pk e) ρ s = some (.nx (ρ.set i (.frz d)) s') := x_asg (k_pk h hp hs) hi
theorem x_st (h : ev P e (hid ρ) s = some (d, s')) (hs : s'.length = s.length) (hi : i < ρ.length) : exec P (.asg i .st e) ρ s = some (.nx (ρ.set i (.frz d)) s') := x_asg (k_st h hs) hi
theorem x_fr {ds : List D} (h : ev P e (vis ρ) s = some (.lst ds, s')) (hp : purs ds = true) (hf : fresh P e = true) (hs : s'.length = s.length) (hi : i < ρ.length) : exec P (.asg i .fr e) ρ s = some (.nx (ρ.set i (.own ds)) s') := x_asg (k_fr h hp hf hs) hi
theorem x_app {ds : List D} (h : ev P e (vis ρ) s = some (d, s')) (hp : pur d = true) (hs : s'.length = s.length) (hi : ρ[i]? = some (.own ds)) (hl : ds.length < SZ) : exec P (.app i .pk e) ρ s = some (.nx (ρ.set i (.own (ds ++ [d]))) s') := by
  simp only [exec, k_pk h hp hs, hi, hl, Option.bind_some, if_true]
theorem x_ret (h : ev P e (vis ρ) s = some (d, s')) (hp : pur d = true) (hs : s'.length = s.length) : exec P (.ret .pk e) ρ s = some (.rt false d s') := by
  show (keep P .pk e ρ s).bind _ = _
  rw [k_pk h hp hs]; rfl
theorem x_raise (h : ev P e (vis ρ) s = some (d, s')) (hp : pur d = true) (hs : s'.length = s.length) : exec P (.raise_ e) ρ s = some (.ex d s') := by
  show (keep P .pk e ρ s).bind _ = _
  rw [k_pk h hp hs]; rfl
theorem t_ev {k : Bool} (h : ev P c (vis ρ) s = some (d, s')) (hk : tru d = some k) (hs : s'.length = s.length) : test P c ρ s = some (k, s') := by
  show bnd (ev P c (vis ρ) s) _ = _
  rw [h]
  show (if okc ρ s s' then (tru d).map (·, s') else none) = _
  rw [okc_of hs, hk]; rfl
theorem x_ite {k : Bool} {a b : DL.S} (h : ev P c (vis ρ) s = some (d, s')) (hk : tru d = some k) (hs : s'.length = s.length) (h2 : exec P (if k then a else b) ρ s' = r) : exec P (.ite c a b) ρ s = r := by
  show (match test P c ρ s with
    | some (true, s') => exec P a ρ s'
    | some (false, s') => exec P b ρ s'
    | none => none) = _
  rw [t_ev h hk hs]
  cases k <;> exact h2
theorem x_iteB {k : Bool} {a b : DL.S} (h : ev P c (vis ρ) s = some (.bl k, s')) (hs : s'.length = s.length) (h2 : exec P (if k then a else b) ρ s' = r) : exec P (.ite c a b) ρ s = r := x_ite h rfl hs h2
theorem x_for {k : Itk} {src : E} {tg : Tg} {b : DL.S} {xs : List D} (h : ev P src (hid ρ) s = some (d, s')) (hs : s'.length = s.length) (hi : items k d = some xs) (h2 : forF (fun x ρ s => (tgS tg x ρ).bind fun ρ' => exec P b ρ' s) xs ρ s' = r) : exec P (.for_ k src tg b) ρ s = r := by
  show bnd (ev P src (hid ρ) s) _ = _
  rw [h]
  show (if okc ρ s s' then _ else none) = _
  rw [okc_of hs]
  show (items k d).bind _ = _
  rw [hi]
  exact h2
theorem run_rt {f : Fn} {xs : List D} (hn : xs.length = f.np) (hf : f.fr = false) (h : exec P f.body (xs.map .frz ++ List.replicate (f.nl - f.np) .nil) s = some (.rt false d s')) : runF P f xs s = some (d, s') := by
  unfold runF
  rw [if_pos hn, h]
  show (if false = f.fr then _ else _) = _
  rw [hf]; rfl
/-! expressions -/
theorem e_cons {r : E} {ρ : Vw} {x : D} {ys : List D} (h : ev P a ρ s = some (x, s')) (h2 : ev P r ρ s' = some (.tup ys, s2)) : ev P (.cons a r) ρ s = some (.tup (x :: ys), s2) := by
  show bnd (ev P a ρ s) _ = _
  rw [h]
  show bnd (ev P r ρ s') _ = _
  rw [h2]; rfl
theorem e_cons1 {ρ : Vw} {x : D} (h : ev P a ρ s = some (x, s')) : ev P (.cons a .nil) ρ s = some (.tup [x], s') := e_cons h rfl
theorem e_call {f : Nat} {ρ : Vw} {xs : List D} (h : ev P a ρ s = some (.tup xs, s')) (h2 : P.Φ f xs s' = some (d, s2)) : ev P (.call f a) ρ s = some (d, s2) := by
  show bnd (ev P a ρ s) _ = _
  rw [h]; exact h2
theorem e_call1 {f : Nat} {ρ : Vw} {x : D} (h : ev P a ρ s = some (x, s')) (h2 : P.Φ f [x] s' = some (d, s2)) : ev P (.call f (.cons a .nil)) ρ s = some (d, s2) := e_call (e_cons1 h) h2
theorem e_bin {o : Bop} {ρ : Vw} {x y : D} (h : ev P a ρ s = some (x, s')) (h2 : ev P b ρ s' = some (y, s2)) (h3 : bop o x y = some d) : ev P (.bin o a b) ρ s = some (d, s2) := by
  show bnd (ev P a ρ s) _ = _
  rw [h]
  show bnd (ev P b ρ s') _ = _
  rw [h2]
  show (bop o x y).map _ = _
  rw [h3]; rfl
theorem e_cmp {o : Cop} {ρ : Vw} {x y : D} {k : Bool} (h : ev P a ρ s = some (x, s')) (h2 : ev P b ρ s' = some (y, s2)) (h3 : cop o x y = some k) : ev P (.cmp o a b) ρ s = some (.bl k, s2) := by
  show bnd (ev P a ρ s) _ = _
  rw [h]
  show bnd (ev P b ρ s') _ = _
  rw [h2]
  show (cop o x y).map _ = _
  rw [h3]; rfl
theorem e_and {ρ : Vw} {x : D} {k : Bool} {o : Option (D × Ss)} (h : ev P a ρ s = some (x, s')) (hk : tru x = some k) (h2 : (if k then ev P b ρ s' else some (x, s')) = o) : ev P (.and_ a b) ρ s = o := by
  show bnd (ev P a ρ s) _ = _
  rw [h]
  show (match tru x with
    | some true => ev P b ρ s'
    | some false => some (x, s')
    | none => none) = _
  rw [hk]
  cases k <;> exact h2
theorem e_or {ρ : Vw} {x : D} {k : Bool} {o : Option (D × Ss)} (h : ev P a ρ s = some (x, s')) (hk : tru x = some k) (h2 : (if k then some (x, s') else ev P b ρ s') = o) : ev P (.or_ a b) ρ s = o := by
  show bnd (ev P a ρ s) _ = _
  rw [h]
  show (match tru x with
    | some true => some (x, s')
    | some false => ev P b ρ s'
    | none => none) = _
  rw [hk]
  cases k <;> exact h2
theorem e_not {ρ : Vw} {x : D} {k : Bool} (h : ev P a ρ s = some (x, s')) (hk : tru x = some k) : ev P (.not_ a) ρ s = some (.bl (!k), s') := by
  show bnd (ev P a ρ s) _ = _
  rw [h]
  show (tru x).map _ = _
  rw [hk]; rfl
theorem e_ite {ρ : Vw} {x : D} {k : Bool} {o : Option (D × Ss)} (h : ev P c ρ s = some (x, s')) (hk : tru x = some k) (h2 : (if k then ev P a ρ s' else ev P b ρ s') = o) : ev P (.ite c a b) ρ s = o := by
  show bnd (ev P c ρ s) _ = _
  rw [h]
  show (match tru x with
    | some true => ev P a ρ s'
    | some false => ev P b ρ s'
    | none => none) = _
  rw [hk]
  cases k <;> exact h2
theorem e_tup {ρ : Vw} {xs : List D} (h : ev P a ρ s = some (.tup xs, s')) (hl : xs.length ≤ SZ) : ev P (.tup a) ρ s = some (.tup xs, s') := by
  show bnd (ev P a ρ s) _ = _
  rw [h]
  show (if xs.length ≤ SZ then _ else _) = _
  rw [if_pos hl]
theorem e_lst {ρ : Vw} {xs : List D} (h : ev P a ρ s = some (.tup xs, s')) (hl : xs.length ≤ SZ) : ev P (.lst a) ρ s = some (.lst xs, s') := by
  show bnd (ev P a ρ s) _ = _
  rw [h]
  show (if xs.length ≤ SZ then _ else _) = _
  rw [if_pos hl]
theorem e_idx {ρ : Vw} {x y : D} (h : ev P a ρ s = some (x, s')) (h2 : ev P b ρ s' = some (y, s2)) (h3 : dix x y = some d) : ev P (.idx a b) ρ s = some (d, s2) := by
  show bnd (ev P a ρ s) _ = _
  rw [h]
  show bnd (ev P b ρ s') _ = _
  rw [h2]
  show (dix x y).map _ = _
  rw [h3]; rfl
theorem e_bi {f : Bi} {ρ : Vw} {x : D} (h : ev P a ρ s = some (x, s')) (h3 : dbi f x = some d) : ev P (.bi f a) ρ s = some (d, s') := by
  show bnd (ev P a ρ s) _ = _
  rw [h]
  show (dbi f x).map _ = _
  rw [h3]; rfl
theorem e_me {m : Me} {ρ : Vw} {x y : D} (h : ev P a ρ s = some (x, s')) (h2 : ev P b ρ s' = some (y, s2)) (h3 : dme m x y = some d) : ev P (.me m a b) ρ s = some (d, s2) := by
  show bnd (ev P a ρ s) _ = _
  rw [h]
  show bnd (ev P b ρ s') _ = _
  rw [h2]
  show (dme m x y).map _ = _
  rw [h3]; rfl
theorem e_slc {k : Itk} {lo hi : E} {ρ : Vw} {x l h : D} {s3 : Ss} {L Hh : Option Int} (h1 : ev P a ρ s = some (x, s')) (h2 : ev P lo ρ s' = some (l, s2)) (h3 : ev P hi ρ s2 = some (h, s3)) (h4 : partE lo l = some L) (h5 : partE hi h = some Hh) (h6 : dsl k x L Hh = some d) : ev P (.slc k a lo hi) ρ s = some (d, s3) := by
  show bnd (ev P a ρ s) _ = _
  rw [h1]
  show bnd (ev P lo ρ s') _ = _
  rw [h2]
  show bnd (ev P hi ρ s2) _ = _
  rw [h3]
  show (partE lo l).bind _ = _
  rw [h4]
  show (partE hi h).bind _ = _
  rw [h5]
  show (dsl k x L Hh).map _ = _
  rw [h6]; rfl
theorem e_kin {t : Nat} {neg : Bool} {ρ : Vw} {l : List Nat} (h : ev P a ρ s = some (.str l, s')) (ht : t < P.nt) : ev P (.kin t neg a) ρ s = some (.bl (if neg then !(tget (P.T t) l).isSome else (tget (P.T t) l).isSome), s') := by
  show bnd (ev P a ρ s) _ = _
  rw [h]
  show (if t < P.nt then _ else none) = _
  rw [if_pos ht]
theorem e_kget {t : Nat} {ρ : Vw} {l : List Nat} (h : ev P a ρ s = some (.str l, s')) (ht : t < P.nt) (hd : tget (P.T t) l = some d) : ev P (.kget t a) ρ s = some (d, s') := by
  show bnd (ev P a ρ s) _ = _
  rw [h]
  show (if t < P.nt then (tget (P.T t) l).map _ else none) = _
  rw [if_pos ht, hd]; rfl
section
variable {step : D → Env → Ss → Option Out} {x : D} {xs : List D}
theorem for_nx (h : step x ρ s = some (.nx ρ' s')) : forF step (x :: xs) ρ s = forF step xs ρ' s' := by
  show (match step x ρ s with
    | some (.nx ρ' s') => forF step xs ρ' s'
    | some (.ct ρ' s') => forF step xs ρ' s'
    | some (.bk ρ' s') => some (.nx ρ' s')
    | some (.rt f d s') => some (.rt f d s')
    | some (.ex d s') => some (.ex d s')
    | none => none) = _
  rw [h]
theorem for_ct (h : step x ρ s = some (.ct ρ' s')) : forF step (x :: xs) ρ s = forF step xs ρ' s' := by
  show (match step x ρ s with
    | some (.nx ρ' s') => forF step xs ρ' s'
    | some (.ct ρ' s') => forF step xs ρ' s'
    | some (.bk ρ' s') => some (.nx ρ' s')
    | some (.rt f d s') => some (.rt f d s')
    | some (.ex d s') => some (.ex d s')
    | none => none) = _
  rw [h]
theorem for_rt {f : Bool} (h : step x ρ s = some (.rt f d s')) : forF step (x :: xs) ρ s = some (.rt f d s') := by
  show (match step x ρ s with
    | some (.nx ρ' s') => forF step xs ρ' s'
    | some (.ct ρ' s') => forF step xs ρ' s'
    | some (.bk ρ' s') => some (.nx ρ' s')
    | some (.rt f d s') => some (.rt f d s')
    | some (.ex d s') => some (.ex d s')
    | none => none) = _
  rw [h]
end
theorem it_rng3 {b c : Int} (h : 0 ≤ b ∧ b < 2 ^ 62 ∧ 0 < c ∧ c < 1073741824) : items .rng3 (.tup [.int 0, .int b, .int c]) = some ((List.range ((b + c - 1) / c).toNat).map fun j : Nat => .int ((j : Int) * c)) := by
  simp only [items]
  exact if_pos h
theorem it_rng1 {n : Nat} (h : n < 2 ^ 62) : items .rng1 (.tup [.int (n : Nat)]) = some ((List.range n).map fun j : Nat => .int (j : Int)) := by
  have f : fits ((n : Nat) : Int) := ⟨by omega, by omega⟩
  simp only [items]
  rw [if_pos f, Int.toNat_natCast]
theorem e_var {ρ : Vw} (h : ρ[i]? = some (some d)) : ev P (.var i) ρ s = some (d, s) := by
  show (match ρ[i]? with
    | some (some d) => some (d, s)
    | _ => none) = _
  rw [h]
theorem din_tup {w : List Nat} {l : List (List Nat)} {ys : List D} (h : strs? ys = some l) : din (.str w) (.tup ys) = some (decide (w ∈ l)) := by
  have e : din (.str w) (.tup ys) = (strs? ys).map fun l => decide (w ∈ l) := by
    match w with
    | [] => rfl
    | [_] => rfl
    | _ :: _ :: _ => rfl
  rw [e, h]; rfl
theorem din_lst {w : List Nat} {l : List (List Nat)} {ys : List D} (h : strs? ys = some l) : din (.str w) (.lst ys) = some (decide (w ∈ l)) := by
  have e : din (.str w) (.lst ys) = (strs? ys).map fun l => decide (w ∈ l) := by
    match w with
    | [] => rfl
    | [_] => rfl
    | _ :: _ :: _ => rfl
  rw [e, h]; rfl
end DL
set_option Elab.async false
set_option linter.all false
set_option maxRecDepth 100000
set_option maxHeartbeats 4000000
/-! The plain law of k35, part 1: words, numbers. -/
namespace G
open PySem L2 DL
def nameOk (w : List Nat) : Bool := decide (w ≠ []) && w.all fun c => decide (c ∈ s_NAME_CHARACTERS)
def num (w : List Nat) : Option Int :=
  if w = [] ∨ w.all (fun c => decide (c ∈ s_DIGITS)) = false ∨ (w.head? = some 48 ∧ w ≠ [48]) ∨ 10 < w.length then none else if decv w < 4294967296 then some (decv w) else none
def numD (w : List Nat) : D := match num w with
  | some v => .int v
  | none => .non
theorem allEv {F : Nat → Fn1} {i : Nat} {l w : List Nat} {ρ : Vw} {s : Ss} (hl : w.length ≤ SZ) (hi : i < ρ.length) (h0 : ρ[0]? = some (some (.str w))) :
    ev (par F) (.bi .all (.comp .str (.var 0) (.nm i) [i] (.nop) (.cmp .isin (.var i) (.str l)))) ρ s = some (.bl (w.all fun c => decide (c ∈ l)), s) := by
  have key := compF_map (step := cstep (par F) (.nm i) [i] .nop (.cmp .isin (.var i) (.str l)) ρ) (s := s) (g := fun x => match x with | .str [c] => .bl (decide (c ∈ l)) | _ => .non) (xs := w.map fun c => D.str [c]) (by
      intro x hx
      obtain ⟨c, _, rfl⟩ := List.mem_map.mp hx
      refine cstep_nop (ρ' := (ρ.set i none).set i (some (.str [c]))) ?_ (e_cmp (x := .str [c]) (y := .str l) ?_ (by rfl) (by rfl))
      · simp [tgO, wipeO, hi]
      · simp [ev, hi])
  refine e_bi (ev_comp (d := .str w) (by simp [ev, h0]) (by rfl) (by simpa using hl) (by simp [tgIn]) key) ?_
  show (dall _).map _ = _
  have e : (w.map fun c => D.str [c]).map (fun x => match x with | .str [c] => D.bl (decide (c ∈ l)) | _ => .non) = (w.map fun c => decide (c ∈ l)).map D.bl := by
    rw [List.map_map, List.map_map]; rfl
  rw [e, dall_bl]
  simp
theorem e_name {n : Nat} {w : List Nat} {s : Ss} (hl : w.length ≤ SZ) : Φ (n + 1) 2 [.str w] s = some (.bl (nameOk w), s) := by
  have h := allEv (F := Φ n) (i := 1) (l := s_NAME_CHARACTERS) (w := w) (ρ := [some (.str w), none]) (s := s) hl (by simp) rfl
  show runF (par (Φ n)) f2 [.str w] s = _
  refine run_rt rfl rfl ?_
  show exec (par (Φ n)) b2 [.frz (.str w), .nil] s = _
  refine x_ret (e_and (k := !decide (w = [])) (e_cmp (x := .str w) (y := .str []) (k := !decide (w = [])) (by rfl) (by rfl) (by rfl)) (by rfl) ?_) (by rfl) (by rfl)
  show (if (!decide (w = [])) = true then ev (par (Φ n)) (.bi .all (.comp .str (.var 0) (.nm 1) [1] (.nop) (.cmp .isin (.var 1) (.str s_NAME_CHARACTERS)))) [some (.str w), none] s else some (.bl (!decide (w = [])), s)) = _
  by_cases hw : w = []
  · subst hw; rfl
  · rw [decide_eq_false hw]
    show ev (par (Φ n)) (.bi .all (.comp .str (.var 0) (.nm 1) [1] (.nop) (.cmp .isin (.var 1) (.str s_NAME_CHARACTERS)))) [some (.str w), none] s = _
    refine h.trans ?_
    simp [nameOk, hw]
theorem digs {w : List Nat} (h : w.all (fun c => decide (c ∈ s_DIGITS)) = true) : w.all isDig = true := by
  rw [List.all_eq_true] at h ⊢
  intro c hc
  have q := of_decide_eq_true (h c hc)
  unfold isDig
  simp [s_DIGITS] at q
  simp
  omega
theorem e_num {n : Nat} {w : List Nat} {s : Ss} (hl : w.length ≤ SZ) : Φ (n + 1) 3 [.str w] s = some (numD w, s) := by
  have h := allEv (F := Φ n) (i := 2) (l := s_DIGITS) (w := w) (ρ := [some (.str w), none, none]) (s := s) hl (by simp) rfl
  show runF (par (Φ n)) f3 [.str w] s = _
  refine run_rt rfl rfl ?_
  show exec (par (Φ n)) b3 [.frz (.str w), .nil, .nil] s = _
  by_cases hw : w = []
  · subst hw; exact x_seqR (x_iteB (k := true) (e_or (k := true) (e_cmp (x := .str []) (y := .str []) (by rfl) (by rfl) (k := true) (by rfl)) (by rfl) (by rfl)) (by rfl) (x_ret (by rfl) (by rfl) (by rfl)))
  have c1 : ev (par (Φ n)) (.cmp .eq (.var 0) (.str [])) [some (.str w), none, none] s = some (.bl false, s) := e_cmp (x := .str w) (y := .str []) (by rfl) (by rfl) (by show some (decide (w = [])) = _; rw [decide_eq_false hw])
  have c2 := e_not h (k := w.all fun c => decide (c ∈ s_DIGITS)) (by rfl)
  cases ha : w.all fun c => decide (c ∈ s_DIGITS) with
  | false =>
    rw [ha] at c2
    have e : numD w = .non := by unfold numD num; rw [if_pos (Or.inr (Or.inl ha))]
    rw [e]
    exact x_seqR (x_iteB (k := true) (e_or (k := false) c1 (by rfl) (e_or (k := true) c2 (by rfl) (by rfl))) (by rfl) (x_ret (by rfl) (by rfl) (by rfl)))
  | true =>
    rw [ha] at c2
    obtain ⟨c, r, rfl⟩ : ∃ c r, w = c :: r := by cases w with | nil => exact absurd rfl hw | cons c r => exact ⟨c, r, rfl⟩
    have c3 : ev (par (Φ n)) (.and_ (.cmp .eq (.idx (.var 0) (.int 0)) (.str [48])) (.cmp .ne (.var 0) (.str [48]))) [some (.str (c :: r)), none, none] s = some (.bl (decide (c = 48) && !decide (c :: r = [48])), s) := by
      have i0 : ev (par (Φ n)) (.idx (.var 0) (.int 0)) [some (.str (c :: r)), none, none] s = some (.str [c], s) := e_idx (x := .str (c :: r)) (y := .int 0) (by rfl) (by rfl) (by
        show (if (c :: r).length ≤ SZ then _ else none) = _
        rw [if_pos hl]
        simp [at?])
      refine e_and (k := decide (c = 48)) (e_cmp (x := .str [c]) (y := .str [48]) (k := decide (c = 48)) i0 (by rfl) (by show some (decide ([c] = [48])) = _; simp)) (by rfl) ?_
      by_cases hc : c = 48
      · rw [decide_eq_true hc]
        exact e_cmp (x := .str (c :: r)) (y := .str [48]) (by rfl) (by rfl) (by rfl)
      · rw [decide_eq_false hc]; rfl
    have c4 : ev (par (Φ n)) (.cmp .gt (.bi .len (.var 0)) (.int 10)) [some (.str (c :: r)), none, none] s = some (.bl (decide (10 < (c :: r).length)), s) := by
      refine e_cmp (x := .int (c :: r).length) (y := .int 10) (e_bi (x := .str (c :: r)) (by rfl) (by show (if _ then _ else none) = _; rw [if_pos hl])) (by rfl) ?_
      show some (decide ((10 : Int) < ((c :: r).length : Nat))) = _
      congr 1
      exact decide_eq_decide.mpr (by omega)
    by_cases h3 : c = 48 ∧ c :: r ≠ [48]
    · have e3 : (decide (c = 48) && !decide (c :: r = [48])) = true := by simp [h3.1]; exact fun q => h3.2 (by rw [h3.1, q])
      rw [e3] at c3
      have e : numD (c :: r) = .non := by unfold numD num; rw [if_pos (Or.inr (Or.inr (Or.inl ⟨by simp [h3.1], h3.2⟩)))]
      rw [e]
      exact x_seqR (x_iteB (k := true) (e_or (k := false) c1 (by rfl) (e_or (k := false) c2 (by rfl) (e_or (k := true) c3 (by rfl) (by rfl)))) (by rfl) (x_ret (by rfl) (by rfl) (by rfl)))
    · have e3 : (decide (c = 48) && !decide (c :: r = [48])) = false := by
        by_cases hc : c = 48
        · have : c :: r = [48] := Classical.byContradiction fun q => h3 ⟨hc, q⟩
          rw [this]; simp
        · simp [hc]
      rw [e3] at c3
      by_cases h4 : 10 < (c :: r).length
      · rw [decide_eq_true h4] at c4
        have e : numD (c :: r) = .non := by unfold numD num; rw [if_pos (Or.inr (Or.inr (Or.inr h4)))]
        rw [e]
        exact x_seqR (x_iteB (k := true) (e_or (k := false) c1 (by rfl) (e_or (k := false) c2 (by rfl) (e_or (k := false) c3 (by rfl) c4))) (by rfl) (x_ret (by rfl) (by rfl) (by rfl)))
      · rw [decide_eq_false h4] at c4
        have e : numD (c :: r) = if decv (c :: r) < 4294967296 then .int (decv (c :: r)) else .non := by
          unfold numD num
          rw [if_neg]
          · split
            · rename_i v hv
              split at hv
              · rename_i g; cases hv; rw [if_pos g]
              · cases hv
            · rename_i hv
              split at hv
              · cases hv
              · rename_i g; rw [if_neg g]
          · rintro (q | q | q | q)
            · exact hw q
            · rw [ha] at q; cases q
            · exact h3 ⟨by simpa using q.1, q.2⟩
            · exact h4 q
        rw [e]
        refine x_seq (x_iteB (k := false) (e_or (k := false) c1 (by rfl) (e_or (k := false) c2 (by rfl) (e_or (k := false) c3 (by rfl) c4))) (by rfl) (by rfl)) ?_
        refine x_seq (x_pk (d := .int (decv (c :: r))) (e_bi (x := .str (c :: r)) (by rfl) ?_) (by rfl) (by rfl) (by simp)) ?_
        · show (if _ then _ else none) = _
          rw [if_pos ⟨hw, digs ha, by omega⟩]
        · refine x_ret (e_ite (k := decide (decv (c :: r) < 4294967296)) (e_cmp (x := .int (decv (c :: r))) (y := .int 4294967296) (by rfl) (by rfl) (by rfl)) (by rfl) ?_) ?_ (by rfl)
          · by_cases g : decv (c :: r) < 4294967296
            · rw [decide_eq_true g, if_pos rfl, if_pos g]; rfl
            · rw [decide_eq_false g, if_neg (by decide), if_neg g]; rfl
          · split <;> rfl
theorem num_text {w : List Nat} {v : Int} (h : num w = some v) : toText v = w ∧ 0 ≤ v ∧ v < 4294967296 := by
  unfold num at h
  split at h
  · cases h
  · rename_i g
    split at h
    · rename_i g2
      cases h
      have hne : w ≠ [] := fun q => g (Or.inl q)
      have ha : w.all (fun c => decide (c ∈ s_DIGITS)) = true := by
        cases q : w.all (fun c => decide (c ∈ s_DIGITS)) with
        | true => rfl
        | false => exact absurd (Or.inr (Or.inl q)) g
      refine ⟨?_, by unfold decv; omega, g2⟩
      unfold toText decv
      rw [Int.toNat_natCast]
      unfold TL.numL
      obtain ⟨c, r, rfl⟩ : ∃ c r, w = c :: r := by cases w with | nil => exact absurd rfl hne | cons c r => exact ⟨c, r, rfl⟩
      have dg : NumText.AllDigits (c :: r) := fun x hx => by
        have q := of_decide_eq_true (List.all_eq_true.mp ha x hx)
        simp [s_DIGITS] at q
        omega
      have hc := dg c (List.mem_cons_self ..)
      have h0 : r.length = 0 ∨ ∃ c' r', c :: r = c' :: r' ∧ 49 ≤ c' := by
        by_cases q : c = 48
        · left
          have : c :: r = [48] := Classical.byContradiction fun z => g (Or.inr (Or.inr (Or.inl ⟨by simp [q], z⟩)))
          simp at this
          simp [this.2]
        · exact Or.inr ⟨c, r, rfl, by omega⟩
      rw [NumText.toDigits_digitsVal r.length (c :: r) rfl dg h0, List.map_map]
      have : ∀ x ∈ (c :: r), (Char.toNat ∘ Char.ofNat) x = x := fun x hx => by
        have := dg x hx
        show (Char.ofNat x).toNat = x
        unfold Char.ofNat
        rw [dif_pos (Or.inl (by omega))]
        rfl
      rw [List.map_congr_left this, List.map_id']
    · cases h
end G
set_option Elab.async false
set_option linter.all false
set_option maxRecDepth 100000
set_option maxHeartbeats 4000000
/-! The plain law of k35, part 2: choices, lines. -/
namespace G
open PySem L2 DL
abbrev Tri := List Nat × List Nat × Int
def tri (t : Tri) : D := .tup [.str t.1, .str t.2.1, .int t.2.2]
def chs : List (List Nat) → Option (List Tri)
  | [] => some []
  | a :: b :: c :: r => if nameOk a && nameOk b then (num c).bind fun g => (chs r).map ((a, b, g) :: ·) else none
  | _ => none
def chD (ws : List (List Nat)) : D := if ws = [] ∨ ws.length % 3 ≠ 0 then .non else match chs ws with
  | some cs => .tup (cs.map tri)
  | none => .non
theorem at_nat {α : Type} {xs : List α} {i : Nat} {j : Int} (hj : j = i) (h : i < xs.length) : at? xs j = some xs[i] := by
  subst hj
  unfold at?
  rw [if_pos (by omega), if_pos (by omega), Int.toNat_natCast, List.getElem?_eq_getElem h]
theorem dix_str {ws : List (List Nat)} {i : Nat} {j : Int} {w : List Nat} (hj : j = i) (h : ws[i]? = some w) : dix (.lst (ws.map D.str)) (.int j) = some (.str w) := by
  show at? (ws.map D.str) j = _
  obtain ⟨h1, h2⟩ := List.getElem?_eq_some_iff.mp h
  rw [at_nat hj (by simpa using h1)]
  simp [h2]
theorem purs_tri : ∀ cs : List Tri, purs (cs.map tri) = true
  | [] => rfl
  | c :: r => by
    show (pur (tri c) && purs (r.map tri)) = true
    rw [purs_tri r]; rfl
theorem purs_app : ∀ {xs ys : List D}, purs xs = true → purs ys = true → purs (xs ++ ys) = true
  | [], _, _, h => h
  | x :: r, ys, h, g => by
    have q := Bool.and_eq_true_iff.mp h
    show (pur x && purs (r ++ ys)) = true
    rw [q.1, purs_app q.2 g]; rfl
theorem purs_str : ∀ ws : List (List Nat), purs (ws.map D.str) = true
  | [] => rfl
  | c :: r => by
    show (pur (.str c) && purs (r.map D.str)) = true
    rw [purs_str r]; rfl
def c4b : DL.S := .seq (.asg 3 .pk (.call 3 (.cons (.idx (.var 0) (.bin .add (.var 2) (.int 2))) (.nil)))) (.seq (.ite (.or_ (.not_ (.call 2 (.cons (.idx (.var 0) (.var 2)) (.nil)))) (.or_ (.not_ (.call 2 (.cons (.idx (.var 0) (.bin .add (.var 2) (.int 1))) (.nil)))) (.cmp .isN (.var 3) (.non)))) (.ret .pk (.non)) (.skip)) (.app 1 .pk (.tup (.cons (.idx (.var 0) (.var 2)) (.cons (.idx (.var 0) (.bin .add (.var 2) (.int 1))) (.cons (.var 3) (.nil)))))))
theorem isN_num {w : List Nat} : cop .isN (numD w) .non = some (num w).isNone := by
  unfold numD
  cases num w <;> rfl
theorem pur_num {w : List Nat} : pur (numD w) = true := by
  unfold numD
  cases num w <;> rfl
theorem ch_step {n : Nat} {ws : List (List Nat)} {a b c : List Nat} {j : Nat} {acc : List D} {y : Slot} {s : Ss} (ha : ws[3 * j]? = some a) (hb : ws[3 * j + 1]? = some b) (hc : ws[3 * j + 2]? = some c)
    (la : a.length ≤ SZ) (lb : b.length ≤ SZ) (lc : c.length ≤ SZ) (hl : acc.length < SZ) :
    exec (par (Φ (n + 1))) c4b [.frz (.lst (ws.map D.str)), .own acc, .frz (.int ((j : Int) * 3)), y] s =
      if nameOk a && nameOk b then (match num c with
        | some g => some (.nx [.frz (.lst (ws.map D.str)), .own (acc ++ [tri (a, b, g)]), .frz (.int ((j : Int) * 3)), .frz (numD c)] s)
        | none => some (.rt false .non s)) else some (.rt false .non s) := by
  have ec : ∀ (z : Option D), ev (par (Φ (n + 1))) (.call 3 (.cons (.idx (.var 0) (.bin .add (.var 2) (.int 2))) (.nil))) [some (.lst (ws.map D.str)), some (.lst acc), some (.int ((j : Int) * 3)), z] s = some (numD c, s) := fun z =>
    e_call1 (e_idx (x := .lst (ws.map D.str)) (y := .int ((j : Int) * 3 + 2)) (by rfl) (by rfl) (dix_str (i := 3 * j + 2) (by omega) hc)) (e_num lc)
  refine x_seq (x_pk (ec _) pur_num rfl (by simp)) ?_
  show exec (par (Φ (n + 1))) _ [.frz (.lst (ws.map D.str)), .own acc, .frz (.int ((j : Int) * 3)), .frz (numD c)] s = _
  have ia : ev (par (Φ (n + 1))) (.idx (.var 0) (.var 2)) [some (.lst (ws.map D.str)), some (.lst acc), some (.int ((j : Int) * 3)), some (numD c)] s = some (.str a, s) :=
    e_idx (x := .lst (ws.map D.str)) (y := .int ((j : Int) * 3)) (by rfl) (by rfl) (dix_str (i := 3 * j) (by omega) ha)
  have ib : ev (par (Φ (n + 1))) (.idx (.var 0) (.bin .add (.var 2) (.int 1))) [some (.lst (ws.map D.str)), some (.lst acc), some (.int ((j : Int) * 3)), some (numD c)] s = some (.str b, s) :=
    e_idx (x := .lst (ws.map D.str)) (y := .int ((j : Int) * 3 + 1)) (by rfl) (by rfl) (dix_str (i := 3 * j + 1) (by omega) hb)
  have na := e_not (e_call1 (P := par (Φ (n + 1))) (f := 2) ia (e_name la)) (k := nameOk a) (by rfl)
  have nb := e_not (e_call1 (P := par (Φ (n + 1))) (f := 2) ib (e_name lb)) (k := nameOk b) (by rfl)
  have nc : ev (par (Φ (n + 1))) (.cmp .isN (.var 3) (.non)) [some (.lst (ws.map D.str)), some (.lst acc), some (.int ((j : Int) * 3)), some (numD c)] s = some (.bl (num c).isNone, s) := e_cmp (x := numD c) (y := .non) (by rfl) (by rfl) isN_num
  cases qa : nameOk a with
  | false =>
    rw [qa] at na
    exact x_seqR (x_iteB (k := true) (e_or (k := true) na (by rfl) (by rfl)) rfl (x_ret (by rfl) (by rfl) (by rfl)))
  | true =>
    rw [qa] at na
    cases qb : nameOk b with
    | false =>
      rw [qb] at nb
      exact x_seqR (x_iteB (k := true) (e_or (k := false) na (by rfl) (e_or (k := true) nb (by rfl) (by rfl))) rfl (x_ret (by rfl) (by rfl) (by rfl)))
    | true =>
      rw [qb] at nb
      cases qc : num c with
      | none =>
        rw [qc] at nc
        exact x_seqR (x_iteB (k := true) (e_or (k := false) na (by rfl) (e_or (k := false) nb (by rfl) nc)) rfl (x_ret (by rfl) (by rfl) (by rfl)))
      | some g =>
        rw [qc] at nc
        refine x_seq (x_iteB (k := false) (e_or (k := false) na (by rfl) (e_or (k := false) nb (by rfl) nc)) rfl (by rfl)) ?_
        have e3 : ev (par (Φ (n + 1))) (.tup (.cons (.idx (.var 0) (.var 2)) (.cons (.idx (.var 0) (.bin .add (.var 2) (.int 1))) (.cons (.var 3) (.nil))))) [some (.lst (ws.map D.str)), some (.lst acc), some (.int ((j : Int) * 3)), some (numD c)] s = some (.tup [.str a, .str b, numD c], s) :=
          e_tup (e_cons ia (e_cons ib (e_cons1 (by rfl)))) (by show 3 ≤ SZ; decide)
        have en : numD c = .int g := by unfold numD; rw [qc]
        rw [en] at e3 ⊢
        exact x_app e3 (by rfl) (by rfl) (by rfl) hl
theorem ch_loop {n : Nat} {ws : List (List Nat)} (hw : ∀ w ∈ ws, w.length ≤ SZ) (hz : ws.length ≤ SZ) {s : Ss} : ∀ (m j : Nat) (acc : List D) (x y : Slot) (rest : List (List Nat)), ws.drop (3 * j) = rest → rest.length = 3 * m → acc.length = j →
    (∃ cs, chs rest = some cs ∧ ∃ x' y', forF (fun x ρ s => (tgS (.nm 2) x ρ).bind fun ρ' => exec (par (Φ (n + 1))) c4b ρ' s) ((List.range' j m).map fun j : Nat => .int ((j : Int) * 3)) [.frz (.lst (ws.map D.str)), .own acc, x, y] s = some (.nx [.frz (.lst (ws.map D.str)), .own (acc ++ cs.map tri), x', y'] s)) ∨
    (chs rest = none ∧ forF (fun x ρ s => (tgS (.nm 2) x ρ).bind fun ρ' => exec (par (Φ (n + 1))) c4b ρ' s) ((List.range' j m).map fun j : Nat => .int ((j : Int) * 3)) [.frz (.lst (ws.map D.str)), .own acc, x, y] s = some (.rt false .non s))
  | 0, j, acc, x, y, rest, hd, hl, ha => by
    have : rest = [] := List.length_eq_zero_iff.mp hl
    subst this
    exact .inl ⟨[], rfl, x, y, by simp [forF]⟩
  | m + 1, j, acc, x, y, rest, hd, hl, ha => by
    obtain ⟨a, b, c, r, rfl⟩ : ∃ a b c r, rest = a :: b :: c :: r := by
      match rest, hl with
      | a :: b :: c :: r, _ => exact ⟨a, b, c, r, rfl⟩
      | [], h => simp at h
      | [_], h => simp at h; omega
      | [_, _], h => simp at h; omega
    have hlen : (ws.drop (3 * j)).length = ws.length - 3 * j := List.length_drop ..
    rw [hd] at hlen
    have g0 : ws[3 * j]? = some a := by have := congrArg (fun l => l[0]?) hd; simpa [List.getElem?_drop] using this
    have g1 : ws[3 * j + 1]? = some b := by have := congrArg (fun l => l[1]?) hd; simpa [List.getElem?_drop] using this
    have g2 : ws[3 * j + 2]? = some c := by have := congrArg (fun l => l[2]?) hd; simpa [List.getElem?_drop] using this
    have st := ch_step (n := n) (j := j) (acc := acc) (y := y) (s := s) g0 g1 g2 (hw _ (List.mem_of_getElem? g0)) (hw _ (List.mem_of_getElem? g1)) (hw _ (List.mem_of_getElem? g2)) (by simp at hlen; omega)
    have hd' : ws.drop (3 * (j + 1)) = r := by
      have : ws.drop (3 * j + 3) = (ws.drop (3 * j)).drop 3 := by rw [List.drop_drop]
      rw [show 3 * (j + 1) = 3 * j + 3 by omega, this, hd]; rfl
    rw [List.range'_succ, List.map_cons]
    unfold chs
    by_cases hab : (nameOk a && nameOk b) = true
    · rw [if_pos hab] at st ⊢
      cases hn : num c with
      | none =>
        rw [hn] at st
        exact .inr ⟨rfl, for_rt st⟩
      | some g =>
        rw [hn] at st
        rcases ch_loop hw hz m (j + 1) (acc ++ [tri (a, b, g)]) (.frz (.int ((j : Int) * 3))) (.frz (numD c)) r hd' (by simp at hl; omega) (by simp [ha]) with ⟨cs, e1, x', y', e2⟩ | ⟨e1, e2⟩
        · refine .inl ⟨(a, b, g) :: cs, by simp [e1], x', y', ?_⟩
          refine (for_nx st).trans (e2.trans ?_)
          simp
        · exact .inr ⟨by simp [e1], (for_nx st).trans e2⟩
    · rw [if_neg hab] at st ⊢
      exact .inr ⟨rfl, for_rt st⟩
theorem e_ch {n : Nat} {ws : List (List Nat)} {s : Ss} (hw : ∀ w ∈ ws, w.length ≤ SZ) (hz : ws.length ≤ SZ) : Φ (n + 2) 4 [.lst (ws.map D.str)] s = some (chD ws, s) := by
  show runF (par (Φ (n + 1))) f4 [.lst (ws.map D.str)] s = _
  refine run_rt rfl rfl ?_
  show exec (par (Φ (n + 1))) b4 [.frz (.lst (ws.map D.str)), .nil, .nil, .nil] s = _
  have c1 : ev (par (Φ (n + 1))) (.not_ (.var 0)) [some (.lst (ws.map D.str)), none, none, none] s = some (.bl (!!(ws.map D.str).isEmpty), s) := e_not (x := .lst (ws.map D.str)) (by rfl) (by rfl)
  have el : ev (par (Φ (n + 1))) (.bi .len (.var 0)) [some (.lst (ws.map D.str)), none, none, none] s = some (.int (ws.length : Nat), s) := e_bi (x := .lst (ws.map D.str)) (by rfl) (by simp [dbi])
  have c2 : ev (par (Φ (n + 1))) (.cmp .ne (.bin .mod (.bi .len (.var 0)) (.int 3)) (.int 0)) [some (.lst (ws.map D.str)), none, none, none] s = some (.bl (!decide (((ws.length : Nat) : Int) % 3 = 0)), s) :=
    e_cmp (x := .int (((ws.length : Nat) : Int) % 3)) (y := .int 0) (e_bin (x := .int (ws.length : Nat)) (y := .int 3) el (by rfl) (by rfl)) (by rfl) (by rfl)
  by_cases h1 : ws = []
  · subst h1
    exact x_seqR (x_iteB (k := true) (e_or (k := true) c1 (by rfl) (by rfl)) rfl (x_ret (by rfl) (by rfl) (by rfl)))
  have i1 : (!!(ws.map D.str).isEmpty) = false := by cases ws with | nil => exact absurd rfl h1 | cons _ _ => rfl
  rw [i1] at c1
  by_cases h2 : ws.length % 3 = 0
  case neg =>
    have i2 : (!decide (((ws.length : Nat) : Int) % 3 = 0)) = true := by simp; omega
    rw [i2] at c2
    have e : chD ws = .non := by unfold chD; rw [if_pos (Or.inr h2)]
    rw [e]
    exact x_seqR (x_iteB (k := true) (e_or (k := false) c1 (by rfl) c2) rfl (x_ret (by rfl) (by rfl) (by rfl)))
  have i2 : (!decide (((ws.length : Nat) : Int) % 3 = 0)) = false := by simp; omega
  rw [i2] at c2
  refine x_seq (x_iteB (k := false) (e_or (k := false) c1 (by rfl) c2) rfl (by rfl)) ?_
  refine x_seq (x_fr (ds := []) (by rfl) (by rfl) (by rfl) (by rfl) (by simp)) ?_
  show exec (par (Φ (n + 1))) _ [.frz (.lst (ws.map D.str)), .own [], .nil, .nil] s = _
  have hr := ch_loop (n := n) hw hz (s := s) (ws.length / 3) 0 [] .nil .nil ws rfl (by omega) rfl
  have it : items .rng3 (.tup [.int 0, .int (ws.length : Nat), .int 3]) = some ((List.range' 0 (ws.length / 3)).map fun j : Nat => .int ((j : Int) * 3)) := by
    have hz' : ws.length ≤ 16777216 := hz
    rw [it_rng3 ⟨by omega, by omega, by omega, by omega⟩, List.range_eq_range']
    have : ((((ws.length : Nat) : Int) + 3 - 1) / 3).toNat = ws.length / 3 := by omega
    rw [this]
  have es : ev (par (Φ (n + 1))) (.cons (.int 0) (.cons (.bi .len (.var 0)) (.cons (.int 3) (.nil)))) [some (.lst (ws.map D.str)), none, none, none] s = some (.tup [.int 0, .int (ws.length : Nat), .int 3], s) := e_cons (by rfl) (e_cons el (e_cons1 (by rfl)))
  rcases hr with ⟨cs, e1, x', y', e2⟩ | ⟨e1, e2⟩
  · refine x_seq (x_for (k := .rng3) es rfl it e2) ?_
    have e : chD ws = .tup (cs.map tri) := by unfold chD; rw [if_neg (by simp [h1, h2]), e1]
    rw [e]
    exact x_ret (e_bi (x := .lst ([] ++ cs.map tri)) (by rfl) (by rfl)) (purs_tri cs) (by rfl)
  · have e : chD ws = .non := by unfold chD; rw [if_neg (by simp [h1, h2]), e1]
    rw [e]
    exact x_seqR (x_for (k := .rng3) es rfl it e2)
end G
set_option Elab.async false
set_option linter.all false
set_option maxRecDepth 100000
set_option maxHeartbeats 4000000
/-! The plain law of k35, part 3: a line read. -/
namespace G
open PySem L2 DL
def WAIT : List Nat := [119, 97, 105, 116]
def pt (c : Nat) (w : List Nat) : Option D := if c = 110 ∨ c = 103 then (num w).map .int else if nameOk w = true ∧ ¬ (c = 119 ∧ ¬ (w = [121, 101, 115] ∨ w = [110, 111])) then some (.str w) else none
def lp : List Nat → List (List Nat) → Option (List D)
  | c :: sh, w :: ws => (pt c w).bind fun p => (lp sh ws).map (p :: ·)
  | _, _ => some []
def rWs (w0 : List Nat) (ws : List (List Nat)) : D := match tget tab0 w0 with
    | some (.str sh) => if w0 = WAIT then (match chD (ws.drop 1) with
        | .non => .non
        | d => if nameOk (ws.headD []) then .tup [.str WAIT, .str (ws.headD []), d] else .non)
      else if ws.length = sh.length then (match lp sh ws with
        | some ps => .tup (.str w0 :: ps)
        | none => .non) else .non
    | _ => .non
def rLine (l : List Nat) : D := match splitL 32 l with
  | [] => .non
  | w0 :: ws => rWs w0 ws
theorem split_sum : ∀ (c : Nat) (l : List Nat), ((splitL c l).map (·.length)).sum + (splitL c l).length = l.length + 1
  | c, [] => rfl
  | c, x :: r => by
    have ih := split_sum c r
    unfold splitL
    split
    · simp; omega
    · split
      · rename_i h; rw [h] at ih; simp at ih
      · rename_i w ws h; rw [h] at ih; simp at ih ⊢; omega
theorem mem_sum {w : List Nat} : ∀ {ws : List (List Nat)}, w ∈ ws → w.length ≤ (ws.map (·.length)).sum
  | x :: r, h => by
    rcases List.mem_cons.mp h with rfl | h
    · simp
    · have := mem_sum h; simp; omega
theorem split_ne {c : Nat} (l : List Nat) : splitL c l ≠ [] := fun h => by
  have := split_sum c l
  rw [h] at this
  simp at this
def c5b : DL.S := .seq (.asg 7 .pk (.ite (.cmp .isin (.var 5) (.tup (.cons (.str [110]) (.cons (.str [103]) (.nil))))) (.call 3 (.cons (.var 6) (.nil))) (.var 6))) (.seq (.ite (.or_ (.cmp .isN (.var 7) (.non)) (.and_ (.cmp .notin (.var 5) (.tup (.cons (.str [110]) (.cons (.str [103]) (.nil))))) (.not_ (.call 2 (.cons (.var 6) (.nil)))))) (.ret .pk (.non)) (.skip)) (.seq (.ite (.and_ (.cmp .eq (.var 5) (.str [119])) (.cmp .notin (.var 6) (.tup (.cons (.str [121, 101, 115]) (.cons (.str [110, 111]) (.nil)))))) (.ret .pk (.non)) (.skip)) (.app 4 .pk (.var 7))))
theorem ln_step {n : Nat} {c : Nat} {w : List Nat} {acc : List D} {a0 a1 a2 a3 a7 : Slot} {s : Ss} (lw : w.length ≤ SZ) (hl : acc.length < SZ) :
    exec (par (Φ (n + 1))) c5b [a0, a1, a2, a3, .own acc, .frz (.str [c]), .frz (.str w), a7] s = match pt c w with
      | some p => some (.nx [a0, a1, a2, a3, .own (acc ++ [p]), .frz (.str [c]), .frz (.str w), .frz p] s)
      | none => some (.rt false .non s) := by
  have ein : ∀ ρ : Vw, ρ[5]? = some (some (.str [c])) → ev (par (Φ (n + 1))) (.cmp .isin (.var 5) (.tup (.cons (.str [110]) (.cons (.str [103]) (.nil))))) ρ s = some (.bl (decide (c = 110 ∨ c = 103)), s) := fun ρ h => by
    refine e_cmp (x := .str [c]) (y := .tup [.str [110], .str [103]]) (e_var h) (by rfl) ?_
    show some (decide ([c] ∈ [[110], [103]])) = _
    simp
  have enin : ∀ ρ : Vw, ρ[5]? = some (some (.str [c])) → ev (par (Φ (n + 1))) (.cmp .notin (.var 5) (.tup (.cons (.str [110]) (.cons (.str [103]) (.nil))))) ρ s = some (.bl (!decide (c = 110 ∨ c = 103)), s) := fun ρ h => by
    refine e_cmp (x := .str [c]) (y := .tup [.str [110], .str [103]]) (e_var h) (by rfl) ?_
    show some (!decide ([c] ∈ [[110], [103]])) = _
    simp
  have e6 : ∀ ρ : Vw, ρ[6]? = some (some (.str w)) → ev (par (Φ (n + 1))) (.var 6) ρ s = some (.str w, s) := fun ρ h => e_var h
  have ew : ∀ ρ : Vw, ρ[5]? = some (some (.str [c])) → ev (par (Φ (n + 1))) (.cmp .eq (.var 5) (.str [119])) ρ s = some (.bl (decide (c = 119)), s) := fun ρ h => by
    refine e_cmp (x := .str [c]) (y := .str [119]) (e_var h) (by rfl) ?_
    show some (decide ([c] = [119])) = _
    simp
  have ey : ∀ ρ : Vw, ρ[6]? = some (some (.str w)) → ev (par (Φ (n + 1))) (.cmp .notin (.var 6) (.tup (.cons (.str [121, 101, 115]) (.cons (.str [110, 111]) (.nil))))) ρ s = some (.bl (!decide (w = [121, 101, 115] ∨ w = [110, 111])), s) := fun ρ h => by
    refine e_cmp (x := .str w) (y := .tup [.str [121, 101, 115], .str [110, 111]]) (e6 ρ h) (by rfl) ?_
    have : din (.str w) (.tup [.str [121, 101, 115], .str [110, 111]]) = some (decide (w ∈ [[121, 101, 115], [110, 111]])) := din_tup (by rfl)
    show (din (.str w) (.tup [.str [121, 101, 115], .str [110, 111]])).map _ = _
    rw [this]
    simp
  -- the end: .. and the append
  have fin : ∀ p : D, pur p = true → exec (par (Φ (n + 1))) (.app 4 .pk (.var 7)) [a0, a1, a2, a3, .own acc, .frz (.str [c]), .frz (.str w), .frz p] s = some (.nx [a0, a1, a2, a3, .own (acc ++ [p]), .frz (.str [c]), .frz (.str w), .frz p] s) := fun p hp =>
    x_app (by rfl) hp (by rfl) (by rfl) hl
  by_cases h1 : c = 110 ∨ c = 103
  · have hc9 : ¬ c = 119 := by omega
    have ea : ev (par (Φ (n + 1))) (.ite (.cmp .isin (.var 5) (.tup (.cons (.str [110]) (.cons (.str [103]) (.nil))))) (.call 3 (.cons (.var 6) (.nil))) (.var 6)) (vis [a0, a1, a2, a3, .own acc, .frz (.str [c]), .frz (.str w), a7]) s = some (numD w, s) :=
      e_ite (k := true) ((ein _ (by rfl)).trans (by rw [decide_eq_true h1])) (by rfl) (by
        show ev (par (Φ (n + 1))) (.call 3 (.cons (.var 6) (.nil))) _ s = _
        exact e_call1 (e6 _ (by rfl)) (e_num lw))
    refine x_seq (x_pk ea pur_num rfl (by simp)) ?_
    show exec (par (Φ (n + 1))) _ [a0, a1, a2, a3, .own acc, .frz (.str [c]), .frz (.str w), .frz (numD w)] s = _
    have en : ev (par (Φ (n + 1))) (.cmp .isN (.var 7) (.non)) (vis [a0, a1, a2, a3, .own acc, .frz (.str [c]), .frz (.str w), .frz (numD w)]) s = some (.bl (num w).isNone, s) := e_cmp (x := numD w) (y := .non) (by rfl) (by rfl) isN_num
    unfold pt
    rw [if_pos h1]
    cases hn : num w with
    | none =>
      rw [hn] at en
      exact x_seqR (x_iteB (k := true) (e_or (k := true) en (by rfl) (by rfl)) rfl (x_ret (by rfl) (by rfl) (by rfl)))
    | some v =>
      rw [hn] at en
      refine x_seq (x_iteB (k := false) (e_or (k := false) en (by rfl) (e_and (k := false) ((enin _ (by rfl)).trans (by rw [decide_eq_true h1])) (by rfl) (by rfl))) rfl (by rfl)) ?_
      refine x_seq (x_iteB (k := false) (e_and (k := false) ((ew _ (by rfl)).trans (by rw [decide_eq_false hc9])) (by rfl) (by rfl)) rfl (by rfl)) ?_
      have e : numD w = .int v := by unfold numD; rw [hn]
      rw [e]
      exact fin (.int v) rfl
  · have ea : ev (par (Φ (n + 1))) (.ite (.cmp .isin (.var 5) (.tup (.cons (.str [110]) (.cons (.str [103]) (.nil))))) (.call 3 (.cons (.var 6) (.nil))) (.var 6)) (vis [a0, a1, a2, a3, .own acc, .frz (.str [c]), .frz (.str w), a7]) s = some (.str w, s) :=
      e_ite (k := false) ((ein _ (by rfl)).trans (by rw [decide_eq_false h1])) (by rfl) ((if_neg Bool.false_ne_true).trans (e6 _ (by rfl)))
    refine x_seq (x_pk ea (by rfl) rfl (by simp)) ?_
    show exec (par (Φ (n + 1))) _ [a0, a1, a2, a3, .own acc, .frz (.str [c]), .frz (.str w), .frz (.str w)] s = _
    have en : ev (par (Φ (n + 1))) (.cmp .isN (.var 7) (.non)) (vis [a0, a1, a2, a3, .own acc, .frz (.str [c]), .frz (.str w), .frz (.str w)]) s = some (.bl false, s) := e_cmp (x := .str w) (y := .non) (by rfl) (by rfl) (by rfl)
    have eq := e_not (e_call1 (P := par (Φ (n + 1))) (f := 2) (e6 (vis [a0, a1, a2, a3, .own acc, .frz (.str [c]), .frz (.str w), .frz (.str w)]) (by rfl)) (e_name lw)) (k := nameOk w) (by rfl)
    have ec : ev (par (Φ (n + 1))) (.or_ (.cmp .isN (.var 7) (.non)) (.and_ (.cmp .notin (.var 5) (.tup (.cons (.str [110]) (.cons (.str [103]) (.nil))))) (.not_ (.call 2 (.cons (.var 6) (.nil)))))) (vis [a0, a1, a2, a3, .own acc, .frz (.str [c]), .frz (.str w), .frz (.str w)]) s = some (.bl (!nameOk w), s) :=
      e_or (k := false) en (by rfl) (e_and (k := true) ((enin _ (by rfl)).trans (by rw [decide_eq_false h1])) (by rfl) eq)
    unfold pt
    rw [if_neg h1]
    cases hn : nameOk w with
    | false =>
      rw [hn] at ec
      rw [if_neg (by simp)]
      exact x_seqR (x_iteB (k := true) ec rfl (x_ret (by rfl) (by rfl) (by rfl)))
    | true =>
      rw [hn] at ec
      refine x_seq (x_iteB (k := false) ec rfl (by rfl)) ?_
      have e2 : ev (par (Φ (n + 1))) (.and_ (.cmp .eq (.var 5) (.str [119])) (.cmp .notin (.var 6) (.tup (.cons (.str [121, 101, 115]) (.cons (.str [110, 111]) (.nil)))))) (vis [a0, a1, a2, a3, .own acc, .frz (.str [c]), .frz (.str w), .frz (.str w)]) s = some (.bl (decide (c = 119 ∧ ¬ (w = [121, 101, 115] ∨ w = [110, 111]))), s) := by
        refine e_and (k := decide (c = 119)) (ew _ (by rfl)) (by rfl) ?_
        by_cases h9 : c = 119
        · rw [decide_eq_true h9]
          refine (ey (vis [a0, a1, a2, a3, .own acc, .frz (.str [c]), .frz (.str w), .frz (.str w)]) (by rfl)).trans ?_
          simp [h9]
        · rw [decide_eq_false h9]
          simp [h9]
      by_cases h9 : c = 119 ∧ ¬ (w = [121, 101, 115] ∨ w = [110, 111])
      · rw [decide_eq_true h9] at e2
        rw [if_neg (by simp [h9])]
        exact x_seqR (x_iteB (k := true) e2 rfl (x_ret (by rfl) (by rfl) (by rfl)))
      · rw [decide_eq_false h9] at e2
        rw [if_pos ⟨rfl, h9⟩]
        refine x_seq (x_iteB (k := false) e2 rfl (by rfl)) ?_
        exact fin (.str w) rfl
theorem pt_pur {c : Nat} {w : List Nat} {p : D} (h : pt c w = some p) : pur p = true := by
  unfold pt at h
  split at h
  · cases hn : num w with
    | none => rw [hn] at h; cases h
    | some v => rw [hn] at h; cases h; rfl
  · split at h
    · cases h; rfl
    · cases h
theorem ln_loop {n : Nat} {a0 a1 a2 a3 : Slot} {s : Ss} : ∀ (sh : List Nat) (ws : List (List Nat)) (acc : List D) (a5 a6 a7 : Slot), (∀ w ∈ ws, w.length ≤ SZ) → ws.length = sh.length → acc.length + sh.length ≤ SZ →
    (∃ ps, lp sh ws = some ps ∧ purs ps = true ∧ ∃ x y z, forF (fun x ρ s => (tgS (.tps [5, 6]) x ρ).bind fun ρ' => exec (par (Φ (n + 1))) c5b ρ' s) (zipD (sh.map fun c => .str [c]) (ws.map D.str)) [a0, a1, a2, a3, .own acc, a5, a6, a7] s = some (.nx [a0, a1, a2, a3, .own (acc ++ ps), x, y, z] s)) ∨
    (lp sh ws = none ∧ forF (fun x ρ s => (tgS (.tps [5, 6]) x ρ).bind fun ρ' => exec (par (Φ (n + 1))) c5b ρ' s) (zipD (sh.map fun c => .str [c]) (ws.map D.str)) [a0, a1, a2, a3, .own acc, a5, a6, a7] s = some (.rt false .non s))
  | [], [], acc, a5, a6, a7, _, _, _ => .inl ⟨[], rfl, rfl, a5, a6, a7, by simp [zipD, forF]⟩
  | c :: sh, w :: ws, acc, a5, a6, a7, hw, hl, hz => by
    have hz' : acc.length + (sh.length + 1) ≤ 16777216 := hz
    have st := ln_step (n := n) (c := c) (w := w) (acc := acc) (a0 := a0) (a1 := a1) (a2 := a2) (a3 := a3) (a7 := a7) (s := s) (hw w (List.mem_cons_self ..)) (show acc.length < 16777216 by omega)
    have st : (fun x ρ s => (tgS (.tps [5, 6]) x ρ).bind fun ρ' => exec (par (Φ (n + 1))) c5b ρ' s) (.tup [.str [c], .str w]) [a0, a1, a2, a3, .own acc, a5, a6, a7] s = _ := st
    show (∃ ps, lp (c :: sh) (w :: ws) = some ps ∧ purs ps = true ∧ ∃ x y z, forF (fun x ρ s => (tgS (.tps [5, 6]) x ρ).bind fun ρ' => exec (par (Φ (n + 1))) c5b ρ' s) (.tup [.str [c], .str w] :: zipD (sh.map fun c => .str [c]) (ws.map D.str)) _ s = _) ∨ (lp (c :: sh) (w :: ws) = none ∧ forF (fun x ρ s => (tgS (.tps [5, 6]) x ρ).bind fun ρ' => exec (par (Φ (n + 1))) c5b ρ' s) (.tup [.str [c], .str w] :: zipD (sh.map fun c => .str [c]) (ws.map D.str)) _ s = _)
    unfold lp
    cases hp : pt c w with
    | none =>
      rw [hp] at st
      exact .inr ⟨rfl, for_rt st⟩
    | some p =>
      rw [hp] at st
      rcases ln_loop (n := n) (a0 := a0) (a1 := a1) (a2 := a2) (a3 := a3) (s := s) sh ws (acc ++ [p]) (.frz (.str [c])) (.frz (.str w)) (.frz p) (fun v hv => hw v (List.mem_cons_of_mem _ hv)) (by simpa using hl) (by show (acc ++ [p]).length + sh.length ≤ 16777216; simp; omega) with ⟨ps, e1, e2, x, y, z, e3⟩ | ⟨e1, e3⟩
      · refine .inl ⟨p :: ps, by simp [e1], ?_, x, y, z, (for_nx st).trans (e3.trans (by simp))⟩
        show (pur p && purs ps) = true
        rw [pt_pur hp, e2]; rfl
      · exact .inr ⟨by simp [e1], (for_nx st).trans e3⟩
  | [], _ :: _, _, _, _, _, _, hl, _ => by simp at hl
  | _ :: _, [], _, _, _, _, _, hl, _ => by simp at hl
end G
set_option Elab.async false
set_option linter.all false
set_option maxRecDepth 100000
set_option maxHeartbeats 4000000
/-! The plain law of k35, part 4: a line read, whole. -/
namespace G
open PySem L2 DL
theorem six_some {n d k : Nat} : six n d (some (k : Int)) = min k n := by
  show (if (k : Int) < 0 then ((k : Int) + (n : Int)).toNat else min (k : Int).toNat n) = _
  rw [if_neg (by omega), Int.toNat_natCast]
theorem cut_drop {α : Type} {xs : List α} {k : Nat} {j : Int} (hj : j = k) : cut xs (some j) none = xs.drop k := by
  subst hj
  unfold cut
  rw [six_some]
  show (xs.drop (min k xs.length)).take (xs.length - min k xs.length) = _
  by_cases h : k ≤ xs.length
  · rw [Nat.min_eq_left h, List.take_of_length_le (by simp)]
  · rw [Nat.min_eq_right (by omega), List.drop_of_length_le (Nat.le_refl _), List.drop_of_length_le (by omega)]; simp
theorem tab_str {w : List Nat} {d : D} (h : tget tab0 w = some d) : ∃ sh, d = .str sh ∧ sh.length ≤ 2 := by
  unfold tget at h
  cases q : tab0.find? (fun q => decide (q.1 = w)) with
  | none => rw [q] at h; cases h
  | some z =>
    rw [q] at h
    cases h
    have hm := List.mem_of_find?_eq_some q
    have key : ∀ z ∈ tab0, (match z.2 with | .str sh => decide (sh.length ≤ 2) | _ => false) = true := by decide +kernel
    have hk := key z hm
    split at hk
    · rename_i sh e; exact ⟨sh, e, of_decide_eq_true hk⟩
    · cases hk
theorem chD_cases (ws : List (List Nat)) : chD ws = .non ∨ ∃ cs, ws ≠ [] ∧ chs ws = some cs ∧ chD ws = .tup (cs.map tri) := by
  unfold chD
  split
  · exact .inl rfl
  · rename_i h
    cases q : chs ws with
    | none => exact .inl rfl
    | some cs => exact .inr ⟨cs, fun z => h (Or.inl z), rfl, rfl⟩
theorem wait_sh {sh : List Nat} (h : tget tab0 WAIT = some (.str sh)) : True := trivial
theorem e_line {n : Nat} {l : List Nat} {s : Ss} (hl : l.length + 2 ≤ SZ) : Φ (n + 3) 5 [.str l] s = some (rLine l, s) := by
  show runF (par (Φ (n + 2))) f5 [.str l] s = _
  refine run_rt rfl rfl ?_
  show exec (par (Φ (n + 2))) b5 [.frz (.str l), .nil, .nil, .nil, .nil, .nil, .nil, .nil] s = _
  have hsum := split_sum 32 l
  have hW : ∀ w ∈ splitL 32 l, w.length ≤ SZ := fun w hw => by have := mem_sum hw; omega
  have hWl : (splitL 32 l).length ≤ SZ := by omega
  have e1 : ev (par (Φ (n + 2))) (.me .split (.var 0) (.cons (.str [32]) (.nil))) (hid [.frz (.str l), .nil, .nil, .nil, .nil, .nil, .nil, .nil]) s = some (.lst ((splitL 32 l).map .str), s) :=
    e_me (x := .str l) (y := .tup [.str [32]]) (by rfl) (by rfl) (by show (if _ then _ else none) = _; rw [if_pos hl])
  refine x_seq (x_st e1 (by rfl) (by simp)) ?_
  obtain ⟨w0, ws, hs⟩ : ∃ w0 ws, splitL 32 l = w0 :: ws := by
    cases q : splitL 32 l with
    | nil => exact absurd q (split_ne l)
    | cons a b => exact ⟨a, b, rfl⟩
  unfold rLine
  rw [hs] at hW hWl hsum ⊢
  show exec (par (Φ (n + 2))) _ [.frz (.str l), .frz (.lst ((w0 :: ws).map .str)), .nil, .nil, .nil, .nil, .nil, .nil] s = _
  have i0 : ∀ ρ : Vw, ρ[1]? = some (some (.lst ((w0 :: ws).map .str))) → ev (par (Φ (n + 2))) (.idx (.var 1) (.int 0)) ρ s = some (.str w0, s) := fun ρ h =>
    e_idx (x := .lst ((w0 :: ws).map .str)) (y := .int 0) (e_var h) (by rfl) (dix_str (i := 0) rfl rfl)
  have k1 := e_kin (P := par (Φ (n + 2))) (t := 0) (neg := true) (i0 (vis [.frz (.str l), .frz (.lst ((w0 :: ws).map .str)), .nil, .nil, .nil, .nil, .nil, .nil]) (by rfl)) (show 0 < 1 by decide)
  have k1 : ev (par (Φ (n + 2))) (.kin 0 true (.idx (.var 1) (.int 0))) (vis [.frz (.str l), .frz (.lst ((w0 :: ws).map .str)), .nil, .nil, .nil, .nil, .nil, .nil]) s = some (.bl (!(tget tab0 w0).isSome), s) := k1
  show _ = some (Out.rt false (match tget tab0 w0 with
    | some (.str sh) => if w0 = WAIT then (match chD (ws.drop 1) with
        | .non => .non
        | d => if nameOk (ws.headD []) then .tup [.str WAIT, .str (ws.headD []), d] else .non)
      else if ws.length = sh.length then (match lp sh ws with
        | some ps => .tup (.str w0 :: ps)
        | none => .non) else .non
    | _ => .non) s)
  cases ht : tget tab0 w0 with
  | none =>
    rw [ht] at k1
    exact x_seqR (x_iteB (k := true) k1 rfl (x_ret (by rfl) (by rfl) (by rfl)))
  | some d =>
    obtain ⟨sh, rfl, hsh⟩ := tab_str ht
    rw [ht] at k1
    refine x_seq (x_iteB (k := false) k1 rfl (by rfl)) ?_
    have k2 := e_kget (P := par (Φ (n + 2))) (t := 0) (i0 (vis [.frz (.str l), .frz (.lst ((w0 :: ws).map .str)), .nil, .nil, .nil, .nil, .nil, .nil]) (by rfl)) (show 0 < 1 by decide) (show tget tab0 w0 = _ from ht)
    refine x_seq (x_pk k2 (by rfl) rfl (by simp)) ?_
    show exec (par (Φ (n + 2))) _ [.frz (.str l), .frz (.lst ((w0 :: ws).map .str)), .frz (.str sh), .nil, .nil, .nil, .nil, .nil] s = _
    have kw : ev (par (Φ (n + 2))) (.cmp .eq (.idx (.var 1) (.int 0)) (.str [119, 97, 105, 116])) (vis [.frz (.str l), .frz (.lst ((w0 :: ws).map .str)), .frz (.str sh), .nil, .nil, .nil, .nil, .nil]) s = some (.bl (decide (w0 = WAIT)), s) :=
      e_cmp (x := .str w0) (y := .str WAIT) (i0 _ (by rfl)) (by rfl) (by rfl)
    show _ = some (Out.rt false (if w0 = WAIT then (match chD (ws.drop 1) with
        | .non => .non
        | d => if nameOk (ws.headD []) then .tup [.str WAIT, .str (ws.headD []), d] else .non)
      else if ws.length = sh.length then (match lp sh ws with
        | some ps => .tup (.str w0 :: ps)
        | none => .non) else .non) s)
    by_cases h0 : w0 = WAIT
    · rw [decide_eq_true h0] at kw
      rw [if_pos h0]
      refine x_seqR (x_iteB (k := true) kw rfl ?_)
      have hdr : ∀ w ∈ ws.drop 1, w.length ≤ SZ := fun w hw => hW w (List.mem_cons_of_mem _ (List.mem_of_mem_drop hw))
      have hdl : (ws.drop 1).length ≤ SZ := by simp at hWl ⊢; omega
      have e2 : ev (par (Φ (n + 2))) (.slc .lst (.var 1) (.int 2) (.nop)) (vis [.frz (.str l), .frz (.lst ((w0 :: ws).map .str)), .frz (.str sh), .nil, .nil, .nil, .nil, .nil]) s = some (.lst ((ws.drop 1).map .str), s) := by
        refine e_slc (x := .lst ((w0 :: ws).map .str)) (l := .int 2) (h := .non) (by rfl) (by rfl) (by rfl) (L := some 2) (by rfl) (Hh := none) (by rfl) ?_
        show some (D.lst (cut ((w0 :: ws).map .str) (some 2) none)) = _
        rw [cut_drop (j := 2) (k := 2) rfl]
        simp [List.map_drop]
      have e3 := e_call1 (P := par (Φ (n + 2))) (f := 4) e2 (e_ch (n := n) hdr hdl)
      have hp : pur (chD (ws.drop 1)) = true := by
        rcases chD_cases (ws.drop 1) with h | ⟨cs, _, _, h⟩ <;> rw [h]
        · rfl
        · exact purs_tri cs
      refine x_seq (x_pk e3 hp rfl (by simp)) ?_
      show exec (par (Φ (n + 2))) _ [.frz (.str l), .frz (.lst ((w0 :: ws).map .str)), .frz (.str sh), .frz (chD (ws.drop 1)), .nil, .nil, .nil, .nil] s = _
      rcases chD_cases (ws.drop 1) with h | ⟨cs, hne, _, h⟩ <;> rw [h]
      · refine x_ret (e_ite (k := false) (e_and (k := false) (e_cmp (x := .non) (y := .non) (k := false) (by rfl) (by rfl) (by rfl)) (by rfl) (by rfl)) (by rfl) (by rfl)) (by rfl) (by rfl)
      · obtain ⟨w1, r, rfl⟩ : ∃ w1 r, ws = w1 :: r := by cases ws with | nil => exact absurd rfl hne | cons a b => exact ⟨a, b, rfl⟩
        have i1 : ev (par (Φ (n + 2))) (.idx (.var 1) (.int 1)) (vis [.frz (.str l), .frz (.lst ((w0 :: w1 :: r).map .str)), .frz (.str sh), .frz (.tup (cs.map tri)), .nil, .nil, .nil, .nil]) s = some (.str w1, s) :=
          e_idx (x := .lst ((w0 :: w1 :: r).map .str)) (y := .int 1) (by rfl) (by rfl) (dix_str (i := 1) rfl rfl)
        have n1 := e_call1 (P := par (Φ (n + 2))) (f := 2) i1 (e_name (n := n + 1) (hW w1 (by simp)))
        have cc : ev (par (Φ (n + 2))) (.and_ (.cmp .isnotN (.var 3) (.non)) (.call 2 (.cons (.idx (.var 1) (.int 1)) (.nil)))) (vis [.frz (.str l), .frz (.lst ((w0 :: w1 :: r).map .str)), .frz (.str sh), .frz (.tup (cs.map tri)), .nil, .nil, .nil, .nil]) s = some (.bl (nameOk w1), s) :=
          e_and (k := true) (e_cmp (x := .tup (cs.map tri)) (y := .non) (k := true) (by rfl) (by rfl) (by rfl)) (by rfl) n1
        show exec (par (Φ (n + 2))) _ _ s = some (Out.rt false (if nameOk w1 = true then .tup [.str WAIT, .str w1, .tup (cs.map tri)] else .non) s)
        cases hn : nameOk w1 with
        | false =>
          rw [hn] at cc
          exact x_ret (e_ite (k := false) cc (by rfl) (by rfl)) (by rfl) (by rfl)
        | true =>
          rw [hn] at cc
          refine x_ret (e_ite (k := true) cc (by rfl) ?_) (by show (true && (true && (purs (cs.map tri) && true))) = true; rw [purs_tri]; rfl) (by rfl)
          exact e_tup (e_cons (by rfl) (e_cons i1 (e_cons1 (by rfl)))) (by show 3 ≤ SZ; decide)
    · rw [decide_eq_false h0] at kw
      rw [if_neg h0]
      refine x_seq (x_iteB (k := false) kw rfl (by rfl)) ?_
      have hlen : ev (par (Φ (n + 2))) (.cmp .ne (.bi .len (.var 1)) (.bin .add (.bi .len (.var 2)) (.int 1))) (vis [.frz (.str l), .frz (.lst ((w0 :: ws).map .str)), .frz (.str sh), .nil, .nil, .nil, .nil, .nil]) s = some (.bl (!decide (ws.length = sh.length)), s) := by
        refine e_cmp (x := .int ((w0 :: ws).length : Nat)) (y := .int ((sh.length : Nat) + 1)) (e_bi (x := .lst ((w0 :: ws).map .str)) (by rfl) (by simp [dbi])) (e_bin (x := .int (sh.length : Nat)) (y := .int 1) (e_bi (x := .str sh) (by rfl) ?_) (by rfl) (by rfl)) ?_
        · show (if sh.length ≤ SZ then _ else none) = _
          rw [if_pos (Nat.le_trans hsh (by decide))]
        · show some (!decide ((((w0 :: ws).length : Nat) : Int) = ((sh.length : Nat) : Int) + 1)) = _
          congr 2
          exact decide_eq_decide.mpr (by simp; omega)
      by_cases h1 : ws.length = sh.length
      case neg =>
        rw [decide_eq_false h1] at hlen
        rw [if_neg h1]
        exact x_seqR (x_iteB (k := true) hlen rfl (x_ret (by rfl) (by rfl) (by rfl)))
      rw [decide_eq_true h1] at hlen
      rw [if_pos h1]
      refine x_seq (x_iteB (k := false) hlen rfl (by rfl)) ?_
      refine x_seq (x_fr (ds := [.str w0]) (e_lst (e_cons1 (i0 _ (by rfl))) (by show 1 ≤ SZ; decide)) (by rfl) (by rfl) (by rfl) (by simp)) ?_
      show exec (par (Φ (n + 2))) _ [.frz (.str l), .frz (.lst ((w0 :: ws).map .str)), .frz (.str sh), .nil, .own [.str w0], .nil, .nil, .nil] s = _
      have esl : ev (par (Φ (n + 2))) (.slc .lst (.var 1) (.int 1) (.nop)) (hid [.frz (.str l), .frz (.lst ((w0 :: ws).map .str)), .frz (.str sh), .nil, .own [.str w0], .nil, .nil, .nil]) s = some (.lst (ws.map .str), s) := by
        refine e_slc (x := .lst ((w0 :: ws).map .str)) (l := .int 1) (h := .non) (by rfl) (by rfl) (by rfl) (L := some 1) (by rfl) (Hh := none) (by rfl) ?_
        show some (D.lst (cut ((w0 :: ws).map .str) (some 1) none)) = _
        rw [cut_drop (j := 1) (k := 1) rfl]
        rfl
      have esrc := e_cons (P := par (Φ (n + 2))) (a := .var 2) (x := .str sh) (s := s) (s' := s) (ρ := hid [.frz (.str l), .frz (.lst ((w0 :: ws).map .str)), .frz (.str sh), .nil, .own [.str w0], .nil, .nil, .nil]) (by rfl) (e_cons1 esl)
      rcases ln_loop (n := n + 1) (a0 := .frz (.str l)) (a1 := .frz (.lst ((w0 :: ws).map .str))) (a2 := .frz (.str sh)) (a3 := .nil) (s := s) sh ws [.str w0] .nil .nil .nil (fun w hw => hW w (List.mem_cons_of_mem _ hw)) h1 (by show 1 + sh.length ≤ 16777216; omega) with ⟨ps, q1, q2, x, y, z, q3⟩ | ⟨q1, q3⟩
      · rw [q1]
        refine x_seq (x_for (k := .zip) esrc rfl rfl q3) ?_
        refine x_ret (e_bi (x := .lst ([.str w0] ++ ps)) (by rfl) (by rfl)) ?_ (by rfl)
        show (true && purs ps) = true
        rw [q2]; rfl
      · rw [q1]
        exact x_seqR (x_for (k := .zip) esrc rfl rfl q3)
end G
set_option Elab.async false
set_option linter.all false
set_option maxRecDepth 100000
set_option maxHeartbeats 4000000
/-! The plain law of k35, part 5: what was read is written back. -/
namespace G
open PySem L2 DL
theorem join_split {c : Nat} : ∀ l : List Nat, joinL [c] (splitL c l) = l
  | [] => rfl
  | x :: r => by
    have ih := join_split (c := c) r
    unfold splitL
    split
    · rename_i h
      subst h
      cases q : splitL x r with
      | nil => exact absurd q (split_ne r)
      | cons a b =>
        rw [q] at ih
        show [] ++ [x] ++ joinL [x] (a :: b) = x :: r
        rw [ih]; rfl
    · split
      · rename_i q; exact absurd q (split_ne r)
      · rename_i w ws q
        rw [q] at ih
        cases ws with
        | nil =>
          show x :: w = x :: r
          have : w = r := ih
          rw [this]
        | cons a b =>
          have : w ++ [c] ++ joinL [c] (a :: b) = r := ih
          show x :: w ++ [c] ++ joinL [c] (a :: b) = x :: r
          rw [← this]; simp
def c13i : DL.S := .asg 1 .fr (.bin .add (.var 1) (.lst (.cons (.idx (.var 3) (.int 0)) (.cons (.idx (.var 3) (.int 1)) (.cons (.bi .str (.idx (.var 3) (.int 2))) (.nil))))))
def c13 : DL.S := .ite (.bi (.isi 3) (.var 2)) (.for_ .tup (.var 2) (.nm 3) c13i) (.app 1 .pk (.bi .str (.var 2)))
theorem pt_str {c : Nat} {w : List Nat} {p : D} (h : pt c w = some p) : dbi .str p = some (.str w) ∧ dbi (.isi 3) p = some (.bl false) := by
  unfold pt at h
  split at h
  · cases hn : num w with
    | none => rw [hn] at h; cases h
    | some v =>
      rw [hn] at h
      cases h
      obtain ⟨h1, h2, h3⟩ := num_text hn
      refine ⟨?_, rfl⟩
      have q : dbi .str (.int v) = if 0 ≤ v ∧ v < 10 ^ 10 then some (.str (toText v)) else none := rfl
      rw [q, if_pos ⟨h2, by omega⟩, h1]
  · split at h
    · cases h; exact ⟨rfl, rfl⟩
    · cases h
theorem pt_step {F : Nat → Fn1} {d p : D} {w : List Nat} {acc : List D} {x3 : Slot} {s : Ss} (h1 : dbi .str p = some (.str w)) (h2 : dbi (.isi 3) p = some (.bl false)) (hl : acc.length < SZ) :
    exec (par F) c13 [.frz d, .own acc, .frz p, x3] s = some (.nx [.frz d, .own (acc ++ [.str w]), .frz p, x3] s) :=
  x_iteB (k := false) (e_bi (x := p) (by rfl) h2) rfl (x_app (e_bi (x := p) (by rfl) h1) (by rfl) (by rfl) (by rfl) hl)
theorem lp_loop {F : Nat → Fn1} {d : D} {s : Ss} : ∀ (sh : List Nat) (ws : List (List Nat)) (ps acc : List D) (x2 x3 : Slot), ws.length = sh.length → lp sh ws = some ps → acc.length + ws.length ≤ SZ →
    ∃ y2, forF (fun x ρ s => (tgS (.nm 2) x ρ).bind fun ρ' => exec (par F) c13 ρ' s) ps [.frz d, .own acc, x2, x3] s = some (.nx [.frz d, .own (acc ++ ws.map D.str), y2, x3] s)
  | [], [], ps, acc, x2, x3, _, h, _ => by cases h; exact ⟨x2, by simp [forF]⟩
  | [], _ :: _, _, _, _, _, h, _, _ => by simp at h
  | _ :: _, [], _, _, _, _, h, _, _ => by simp at h
  | c :: sh, w :: ws, ps, acc, x2, x3, hl, h, hz => by
    unfold lp at h
    have hz' : acc.length + (ws.length + 1) ≤ 16777216 := hz
    cases hp : pt c w with
    | none => rw [hp] at h; cases h
    | some p =>
      rw [hp] at h
      cases hq : lp sh ws with
      | none => rw [hq] at h; cases h
      | some qs =>
        rw [hq] at h
        cases h
        obtain ⟨h1, h2⟩ := pt_str hp
        obtain ⟨y2, e⟩ := lp_loop (F := F) (d := d) (s := s) sh ws qs (acc ++ [.str w]) (.frz p) x3 (by simpa using hl) hq (by show (acc ++ [D.str w]).length + ws.length ≤ 16777216; simp; omega)
        exact ⟨y2, (for_nx (pt_step h1 h2 (show acc.length < 16777216 by omega))).trans (e.trans (by simp))⟩
theorem ci_loop {F : Nat → Fn1} {d : D} {x2 : Slot} {s : Ss} : ∀ (ws : List (List Nat)) (cs : List Tri) (acc : List D) (x3 : Slot), chs ws = some cs → acc.length + ws.length ≤ SZ → purs acc = true →
    ∃ y3, forF (fun x ρ s => (tgS (.nm 3) x ρ).bind fun ρ' => exec (par F) c13i ρ' s) (cs.map tri) [.frz d, .own acc, x2, x3] s = some (.nx [.frz d, .own (acc ++ ws.map D.str), x2, y3] s)
  | [], cs, acc, x3, h, _, _ => by cases h; exact ⟨x3, by simp [forF]⟩
  | [_], _, _, _, h, _, _ => by cases h
  | [_, _], _, _, _, h, _, _ => by cases h
  | a :: b :: c :: r, cs, acc, x3, h, hz, hp => by
    unfold chs at h
    have hz' : acc.length + (r.length + 3) ≤ 16777216 := hz
    split at h
    · cases hn : num c with
      | none => rw [hn] at h; cases h
      | some g =>
        rw [hn] at h
        cases hq : chs r with
        | none => rw [hq] at h; cases h
        | some qs =>
          rw [hq] at h
          cases h
          obtain ⟨h1, h2, h3⟩ := num_text hn
          have pa : purs (acc ++ [.str a, .str b, .str c]) = true := purs_app hp rfl
          obtain ⟨y3, e⟩ := ci_loop (F := F) (d := d) (x2 := x2) (s := s) r qs (acc ++ [.str a, .str b, .str c]) (.frz (tri (a, b, g))) hq (by show (acc ++ [D.str a, D.str b, D.str c]).length + r.length ≤ 16777216; simp; omega) pa
          refine ⟨y3, (for_nx (ρ' := [.frz d, .own (acc ++ [.str a, .str b, .str c]), x2, .frz (tri (a, b, g))]) (s' := s) ?_).trans (e.trans (by simp))⟩
          show exec (par F) c13i [.frz d, .own acc, x2, .frz (tri (a, b, g))] s = _
          have el : ev (par F) (.lst (.cons (.idx (.var 3) (.int 0)) (.cons (.idx (.var 3) (.int 1)) (.cons (.bi .str (.idx (.var 3) (.int 2))) (.nil))))) (vis [.frz d, .own acc, x2, .frz (tri (a, b, g))]) s = some (.lst [.str a, .str b, .str c], s) := by
            refine e_lst (e_cons (e_idx (x := tri (a, b, g)) (y := .int 0) (by rfl) (by rfl) (by rfl)) (e_cons (e_idx (x := tri (a, b, g)) (y := .int 1) (by rfl) (by rfl) (by rfl)) (e_cons1 (e_bi (x := .int g) (e_idx (x := tri (a, b, g)) (y := .int 2) (by rfl) (by rfl) (by rfl)) ?_)))) (by show 3 ≤ SZ; decide)
            have q : dbi .str (.int g) = if 0 ≤ g ∧ g < 10 ^ 10 then some (.str (toText g)) else none := rfl
            rw [q, if_pos ⟨h2, by omega⟩, h1]
          refine x_fr (e_bin (x := .lst acc) (by rfl) el (d := .lst (acc ++ [.str a, .str b, .str c])) ?_) pa (by rfl) (by rfl) (by simp)
          show (if _ then _ else none) = _
          rw [if_pos (show acc.length + [D.str a, D.str b, D.str c].length ≤ SZ by show acc.length + 3 ≤ 16777216; omega)]
    · cases h
theorem strs_map : ∀ ws : List (List Nat), strs? (ws.map D.str) = some ws
  | [] => rfl
  | w :: r => by
    show (strs? (r.map D.str)).map (w :: ·) = _
    rw [strs_map r]; rfl
theorem back {n : Nat} {l : List Nat} {s : Ss} (hl : l.length + 2 ≤ SZ) (h : rLine l ≠ .non) : pur (rLine l) = true ∧ (∃ w ps, rLine l = .tup (.str w :: ps)) ∧ Φ (n + 1) 13 [rLine l] s = some (.str (l ++ [10]), s) := by
  obtain ⟨w0, ws, hs⟩ : ∃ w0 ws, splitL 32 l = w0 :: ws := by
    cases q : splitL 32 l with
    | nil => exact absurd q (split_ne l)
    | cons a b => exact ⟨a, b, rfl⟩
  have hsum := split_sum 32 l
  have hjoin := join_split (c := 32) l
  rw [hs] at hsum hjoin
  have hl' : l.length + 2 ≤ 16777216 := hl
  -- the end: the words joined
  have key : ∀ d : D, ∀ ps, d = .tup (.str w0 :: ps) → (∃ y2 y3, forF (fun x ρ s => (tgS (.nm 2) x ρ).bind fun ρ' => exec (par (Φ n)) c13 ρ' s) ps [.frz d, .own [.str w0], .nil, .nil] s = some (.nx [.frz d, .own ([.str w0] ++ ws.map D.str), y2, y3] s)) → Φ (n + 1) 13 [d] s = some (.str (l ++ [10]), s) := by
    rintro d ps rfl ⟨y2, y3, e⟩
    show runF (par (Φ n)) f13 [.tup (.str w0 :: ps)] s = _
    refine run_rt rfl rfl ?_
    show exec (par (Φ n)) b13 [.frz (.tup (.str w0 :: ps)), .nil, .nil, .nil] s = _
    have i0 : ev (par (Φ n)) (.idx (.var 0) (.int 0)) (vis [.frz (.tup (.str w0 :: ps)), .nil, .nil, .nil]) s = some (.str w0, s) := e_idx (x := .tup (.str w0 :: ps)) (y := .int 0) (by rfl) (by rfl) (by
      show at? (D.str w0 :: ps) 0 = _
      rw [at_nat (j := 0) (i := 0) rfl (by simp)]; rfl)
    refine x_seq (x_fr (ds := [.str w0]) (e_lst (e_cons1 i0) (by show 1 ≤ SZ; decide)) (by rfl) (by rfl) (by rfl) (by simp)) ?_
    show exec (par (Φ n)) _ [.frz (.tup (.str w0 :: ps)), .own [.str w0], .nil, .nil] s = _
    have es : ev (par (Φ n)) (.slc .tup (.var 0) (.int 1) (.nop)) (hid [.frz (.tup (.str w0 :: ps)), .own [.str w0], .nil, .nil]) s = some (.tup ps, s) := by
      refine e_slc (x := .tup (.str w0 :: ps)) (l := .int 1) (h := .non) (by rfl) (by rfl) (by rfl) (L := some 1) (by rfl) (Hh := none) (by rfl) ?_
      have q : dsl .tup (.tup (.str w0 :: ps)) (some 1) none = if six (D.str w0 :: ps).length 0 (some 1) = 0 ∧ six (D.str w0 :: ps).length (D.str w0 :: ps).length none = (D.str w0 :: ps).length then none else some (.tup (cut (D.str w0 :: ps) (some 1) none)) := rfl
      have q6 : six (D.str w0 :: ps).length 0 (some 1) = min 1 (D.str w0 :: ps).length := six_some (k := 1)
      rw [q, q6, if_neg (by simp), cut_drop (j := 1) (k := 1) rfl]
      rfl
    refine x_seq (x_for (k := .tup) es rfl rfl e) ?_
    have ej : ev (par (Φ n)) (.me .join (.str [32]) (.cons (.var 1) (.nil))) (vis [.frz (.tup (.str w0 :: ps)), .own ([.str w0] ++ ws.map D.str), y2, y3]) s = some (.str l, s) := by
      refine e_me (x := .str [32]) (y := .tup [.lst ((w0 :: ws).map D.str)]) (by rfl) (e_cons1 (by rfl)) ?_
      have q : dme .join (.str [32]) (.tup [.lst ((w0 :: ws).map D.str)]) = (strs? ((w0 :: ws).map D.str)).bind fun l => if (l.map (·.length)).sum + l.length * [32].length ≤ 16777216 then some (.str (joinL [32] l)) else none := rfl
      rw [q, strs_map, Option.bind_some, if_pos (by simp at hsum ⊢; omega), hjoin]
    refine x_ret (e_bin (x := .str l) (y := .str [10]) ej (by rfl) ?_) (by rfl) (by rfl)
    show (if _ then _ else none) = _
    rw [if_pos (show l.length + [10].length ≤ SZ by show l.length + 1 ≤ 16777216; omega)]
  have hr : rLine l = rWs w0 ws := by unfold rLine; rw [hs]
  rw [hr] at h ⊢
  revert h
  unfold rWs
  cases ht : tget tab0 w0 with
  | none => intro h; exact absurd rfl h
  | some d =>
    obtain ⟨sh, rfl, hsh⟩ := tab_str ht
    dsimp only
    by_cases h0 : w0 = WAIT
    · rw [if_pos h0]
      rcases chD_cases (ws.drop 1) with h | ⟨cs, hne, hcs, h⟩ <;> rw [h]
      · intro h; exact absurd rfl h
      · obtain ⟨w1, r, rfl⟩ : ∃ w1 r, ws = w1 :: r := by cases ws with | nil => exact absurd rfl hne | cons a b => exact ⟨a, b, rfl⟩
        dsimp only
        by_cases hn : nameOk ((w1 :: r).headD []) = true
        case neg => rw [if_neg hn]; intro h; exact absurd rfl h
        case pos =>
          rw [if_pos hn]
          intro _
          refine ⟨by show (true && (true && (purs (cs.map tri) && true))) = true; rw [purs_tri]; rfl, ⟨_, _, rfl⟩, key _ [.str w1, .tup (cs.map tri)] (by rw [h0]; rfl) ?_⟩
          have s1 := pt_step (F := Φ n) (d := .tup [.str WAIT, .str w1, .tup (cs.map tri)]) (p := .str w1) (w := w1) (acc := [.str w0]) (x3 := .nil) (s := s) rfl rfl (by show 1 < SZ; decide)
          have hcs' : chs r = some cs := hcs
          obtain ⟨y3, e⟩ := ci_loop (F := Φ n) (d := .tup [.str WAIT, .str w1, .tup (cs.map tri)]) (x2 := .frz (.tup (cs.map tri))) (s := s) r cs [.str w0, .str w1] .nil hcs' (by show 2 + r.length ≤ 16777216; simp at hsum; omega) rfl
          refine ⟨.frz (.tup (cs.map tri)), y3, (for_nx s1).trans ((for_nx (ρ' := [.frz (.tup [.str WAIT, .str w1, .tup (cs.map tri)]), .own ([.str w0, .str w1] ++ r.map D.str), .frz (.tup (cs.map tri)), y3]) (s' := s) ?_).trans (by simp [forF]))⟩
          show exec (par (Φ n)) c13 [.frz (.tup [.str WAIT, .str w1, .tup (cs.map tri)]), .own ([.str w0] ++ [.str w1]), .frz (.tup (cs.map tri)), .nil] s = _
          exact x_iteB (k := true) (e_bi (x := .tup (cs.map tri)) (by rfl) (by rfl)) rfl (x_for (k := .tup) (d := .tup (cs.map tri)) (by rfl) rfl rfl e)
    · rw [if_neg h0]
      by_cases h1 : ws.length = sh.length
      case neg => rw [if_neg h1]; intro h; exact absurd rfl h
      rw [if_pos h1]
      cases hq : lp sh ws with
      | none => intro h; exact absurd rfl h
      | some ps =>
        intro _
        obtain ⟨y2, e⟩ := lp_loop (F := Φ n) (d := .tup (.str w0 :: ps)) (s := s) sh ws ps [.str w0] .nil .nil h1 hq (by show 1 + ws.length ≤ 16777216; simp at hsum; omega)
        refine ⟨?_, ⟨_, _, rfl⟩, key _ ps rfl ⟨y2, .nil, e⟩⟩
        show (true && purs ps) = true
        have : ∀ (sh : List Nat) (ws : List (List Nat)) (ps : List D), lp sh ws = some ps → purs ps = true := by
          intro sh
          induction sh with
          | nil => intro ws ps h; unfold lp at h; cases h; rfl
          | cons c sh ih =>
            intro ws ps h
            cases ws with
            | nil => unfold lp at h; cases h; rfl
            | cons w ws =>
              unfold lp at h
              cases hp : pt c w with
              | none => rw [hp] at h; cases h
              | some p =>
                rw [hp] at h
                cases hq : lp sh ws with
                | none => rw [hq] at h; cases h
                | some qs =>
                  rw [hq] at h
                  cases h
                  show (pur p && purs qs) = true
                  rw [pt_pur hp, ih ws qs hq]; rfl
        rw [this sh ws ps hq]; rfl
end G
set_option Elab.async false
set_option linter.all false
set_option maxRecDepth 100000
set_option maxHeartbeats 4000000
/-! The plain law of k35, part 6: code read. -/
namespace G
open PySem L2 DL
def isNon : D → Bool
  | .non => true
  | _ => false
theorem isNon_iff {d : D} : isNon d = true ↔ d = .non := by cases d <;> simp [isNon]
def cutNl : List Nat → Option (List Nat × List Nat)
  | [] => none
  | x :: r => if x = 10 then some ([], r) else (cutNl r).map fun q => (x :: q.1, q.2)
theorem cutNl_none : ∀ {l : List Nat}, cutNl l = none → 10 ∉ l
  | [], _ => by simp
  | x :: r, h => by
    unfold cutNl at h
    split at h
    · cases h
    · rename_i hx
      cases q : cutNl r with
      | some z => rw [q] at h; cases h
      | none =>
        have := cutNl_none q
        simp
        exact ⟨fun z => hx z.symm, this⟩
theorem cutNl_some : ∀ {l a b : List Nat}, cutNl l = some (a, b) → l = a ++ 10 :: b ∧ 10 ∉ a
  | [], _, _, h => by cases h
  | x :: r, a, b, h => by
    unfold cutNl at h
    split at h
    · rename_i hx; cases h; exact ⟨by rw [hx]; rfl, by simp⟩
    · rename_i hx
      cases q : cutNl r with
      | none => rw [q] at h; cases h
      | some z =>
        rw [q] at h
        cases h
        obtain ⟨h1, h2⟩ := cutNl_some (a := z.1) (b := z.2) q
        exact ⟨by rw [h1]; rfl, by simp; exact ⟨fun z => hx z.symm, h2⟩⟩
theorem cutNl_app : ∀ {a b : List Nat}, 10 ∉ a → cutNl (a ++ 10 :: b) = some (a, b)
  | [], b, _ => rfl
  | x :: r, b, h => by
    have hx : ¬ x = 10 := fun z => h (by rw [z]; simp)
    have ih := cutNl_app (a := r) (b := b) fun z => h (List.mem_cons_of_mem _ z)
    show (if x = 10 then _ else (cutNl (r ++ 10 :: b)).map _) = _
    rw [if_neg hx, ih]; rfl
theorem find_cut : ∀ (l : List Nat) (n : Nat), findL 10 l n = match cutNl l with
    | none => -1
    | some q => ((n + q.1.length : Nat) : Int)
  | [], n => rfl
  | x :: r, n => by
    unfold findL cutNl
    split
    · rfl
    · rw [find_cut r (n + 1)]
      cases cutNl r with
      | none => rfl
      | some q =>
        show (((n + 1) + q.1.length : Nat) : Int) = ((n + (q.1.length + 1) : Nat) : Int)
        exact congrArg (fun k : Nat => (k : Int)) (by omega)
def rC : Nat → List Nat → Nat → List D ⊕ Nat
  | 0, _, _ => .inl []
  | k + 1, rest, off => if rest = [] then .inl [] else match cutNl rest with
    | none => .inr (off + rest.length)
    | some q => if isNon (rLine q.1) then .inr off else match rC k q.2 (off + q.1.length + 1) with
      | .inl ds => .inl (rLine q.1 :: ds)
      | .inr p => .inr p
def body6 : DL.S := .seq (.asg 3 .pk (.me .find (.var 0) (.cons (.str [10]) (.cons (.var 2) (.nil))))) (.seq (.ite (.cmp .lt (.var 3) (.int 0)) (.raise_ (.bi .len (.var 0))) (.skip)) (.seq (.asg 4 .pk (.call 5 (.cons (.slc .str (.var 0) (.var 2) (.var 3)) (.nil)))) (.seq (.ite (.cmp .isN (.var 4) (.non)) (.raise_ (.var 2)) (.skip)) (.seq (.app 1 .pk (.var 4)) (.asg 2 .pk (.bin .add (.var 3) (.int 1)))))))
def cond6 : E := .cmp .lt (.var 2) (.bi .len (.var 0))
theorem wh_f {cond : DL.Env → Ss → Option (Bool × Ss)} {step : DL.Env → Ss → Option Out} {ρ : DL.Env} {s s' : Ss} {k : Nat} (h : cond ρ s = some (false, s')) : whF cond step (k + 1) ρ s = some (.nx ρ s') := by
  unfold whF
  rw [h]
theorem wh_nx {cond : DL.Env → Ss → Option (Bool × Ss)} {step : DL.Env → Ss → Option Out} {ρ ρ' : DL.Env} {s s' s2 : Ss} {k : Nat} (h : cond ρ s = some (true, s')) (h2 : step ρ s' = some (.nx ρ' s2)) : whF cond step (k + 1) ρ s = whF cond step k ρ' s2 := by
  rw [whF, h]
  dsimp only
  rw [h2]
theorem wh_ex {cond : DL.Env → Ss → Option (Bool × Ss)} {step : DL.Env → Ss → Option Out} {ρ : DL.Env} {s s' s2 : Ss} {k : Nat} {d : D} (h : cond ρ s = some (true, s')) (h2 : step ρ s' = some (.ex d s2)) : whF cond step (k + 1) ρ s = some (.ex d s2) := by
  rw [whF, h]
  dsimp only
  rw [h2]
theorem rc_loop {n : Nat} {T : List Nat} (hT : T.length + 2 ≤ SZ) {s : Ss} : ∀ (k : Nat) (pre rest : List Nat) (acc : List D) (x3 x4 : DL.Slot), T = pre ++ rest → rest.length < k → acc.length ≤ pre.length →
    match rC k rest pre.length with
    | .inl ds => ∃ y2 y3 y4, whF (test (par (Φ (n + 3))) cond6) (exec (par (Φ (n + 3))) body6) k [.frz (.str T), .own acc, .frz (.int (pre.length : Nat)), x3, x4] s = some (.nx [.frz (.str T), .own (acc ++ ds), y2, y3, y4] s)
    | .inr p => whF (test (par (Φ (n + 3))) cond6) (exec (par (Φ (n + 3))) body6) k [.frz (.str T), .own acc, .frz (.int (pre.length : Nat)), x3, x4] s = some (.ex (.int (p : Nat)) s)
  | 0, _, _, _, _, _, _, h, _ => absurd h (Nat.not_lt_zero _)
  | k + 1, pre, rest, acc, x3, x4, hpr, hk, ha => by
    have hT' : T.length + 2 ≤ 16777216 := hT
    have hTs : T.length ≤ SZ := by show T.length ≤ 16777216; omega
    have hTl : T.length = pre.length + rest.length := by rw [hpr]; simp
    have elen : ∀ ρ : Vw, ρ[0]? = some (some (.str T)) → ev (par (Φ (n + 3))) (.bi .len (.var 0)) ρ s = some (.int (T.length : Nat), s) := fun ρ h => e_bi (x := .str T) (e_var h) (by
      show (if T.length ≤ SZ then _ else none) = _
      rw [if_pos hTs])
    have ec : ev (par (Φ (n + 3))) cond6 (vis [.frz (.str T), .own acc, .frz (.int (pre.length : Nat)), x3, x4]) s = some (.bl (decide (pre.length < T.length)), s) := by
      refine e_cmp (x := .int (pre.length : Nat)) (y := .int (T.length : Nat)) (by rfl) (elen _ (by rfl)) ?_
      show some (decide ((pre.length : Int) < (T.length : Int))) = _
      congr 1
      exact decide_eq_decide.mpr (by omega)
    have tc := t_ev (k := decide (pre.length < T.length)) ec (by rfl) (by rfl)
    unfold rC
    by_cases hr : rest = []
    · rw [if_pos hr]
      rw [decide_eq_false (by rw [hTl, hr]; simp)] at tc
      exact ⟨.frz (.int (pre.length : Nat)), x3, x4, (wh_f tc).trans (by simp)⟩
    · rw [if_neg hr]
      rw [decide_eq_true (by have := List.length_pos_iff.mpr hr; omega)] at tc
      -- find
      have ef : ev (par (Φ (n + 3))) (.me .find (.var 0) (.cons (.str [10]) (.cons (.var 2) (.nil)))) (vis [.frz (.str T), .own acc, .frz (.int (pre.length : Nat)), x3, x4]) s = some (.int (findL 10 rest pre.length), s) := by
        refine e_me (x := .str T) (y := .tup [.str [10], .int (pre.length : Nat)]) (by rfl) (by rfl) ?_
        have q : dme .find (.str T) (.tup [.str [10], .int (pre.length : Nat)]) = if T.length ≤ SZ ∧ 0 ≤ ((pre.length : Nat) : Int) ∧ ((pre.length : Nat) : Int) ≤ (T.length : Int) then some (.int (findL 10 (T.drop ((pre.length : Nat) : Int).toNat) ((pre.length : Nat) : Int).toNat)) else none := rfl
        rw [q, if_pos ⟨hTs, by omega, by omega⟩, Int.toNat_natCast, hpr, List.drop_left]
      rw [find_cut] at ef
      cases hc : cutNl rest with
      | none =>
        rw [hc] at ef
        refine wh_ex tc (x_seq (x_pk ef (by rfl) rfl (by simp)) ?_)
        have : pre.length + rest.length = T.length := by omega
        rw [this]
        refine x_seqX (x_iteB (k := true) (e_cmp (x := .int (-1)) (y := .int 0) (by rfl) (by rfl) (by rfl)) rfl ?_)
        exact x_raise (elen _ (by rfl)) (by rfl) rfl
      | some q =>
        obtain ⟨a, b⟩ := q
        rw [hc] at ef
        obtain ⟨hab, h10⟩ := cutNl_some hc
        have hrl : rest.length = a.length + b.length + 1 := by rw [hab]; simp; omega
        dsimp only at ef ⊢
        -- the line
        have el : ev (par (Φ (n + 3))) (.slc .str (.var 0) (.var 2) (.var 3)) (vis [.frz (.str T), .own acc, .frz (.int (pre.length : Nat)), .frz (.int ((pre.length + a.length : Nat) : Int)), x4]) s = some (.str a, s) := by
          refine e_slc (x := .str T) (l := .int (pre.length : Nat)) (h := .int ((pre.length + a.length : Nat) : Int)) (by rfl) (by rfl) (by rfl) (L := some (pre.length : Nat)) (by rfl) (Hh := some ((pre.length + a.length : Nat) : Int)) (by rfl) ?_
          have q : dsl .str (.str T) (some (pre.length : Nat)) (some ((pre.length + a.length : Nat) : Int)) = if T.length ≤ SZ then some (.str (cut T (some (pre.length : Nat)) (some ((pre.length + a.length : Nat) : Int)))) else none := rfl
          rw [q, if_pos hTs]
          unfold cut
          rw [six_some, six_some, Nat.min_eq_left (by omega), Nat.min_eq_left (by omega), hpr, List.drop_left, Nat.add_sub_cancel_left, hab, List.take_left]
        have ecall := e_call1 (P := par (Φ (n + 3))) (f := 5) el (e_line (n := n) (l := a) (s := s) (show a.length + 2 ≤ 16777216 by omega))
        have hpl : pur (rLine a) = true := by
          by_cases z : rLine a = .non
          · rw [z]; rfl
          · exact (back (n := 0) (s := []) (show a.length + 2 ≤ 16777216 by omega) z).1
        have eis : ev (par (Φ (n + 3))) (.cmp .isN (.var 4) (.non)) (vis [.frz (.str T), .own acc, .frz (.int (pre.length : Nat)), .frz (.int ((pre.length + a.length : Nat) : Int)), .frz (rLine a)]) s = some (.bl (isNon (rLine a)), s) :=
          e_cmp (x := rLine a) (y := .non) (by rfl) (by rfl) (by cases rLine a <;> rfl)
        have hneg : ev (par (Φ (n + 3))) (.cmp .lt (.var 3) (.int 0)) (vis [.frz (.str T), .own acc, .frz (.int (pre.length : Nat)), .frz (.int ((pre.length + a.length : Nat) : Int)), x4]) s = some (.bl false, s) := by
          refine e_cmp (x := .int ((pre.length + a.length : Nat) : Int)) (y := .int 0) (by rfl) (by rfl) ?_
          show some (decide (((pre.length + a.length : Nat) : Int) < 0)) = _
          rw [decide_eq_false (by omega)]
        have first : ∀ r, exec (par (Φ (n + 3))) (.seq (.ite (.cmp .isN (.var 4) (.non)) (.raise_ (.var 2)) (.skip)) (.seq (.app 1 .pk (.var 4)) (.asg 2 .pk (.bin .add (.var 3) (.int 1))))) [.frz (.str T), .own acc, .frz (.int (pre.length : Nat)), .frz (.int ((pre.length + a.length : Nat) : Int)), .frz (rLine a)] s = r → exec (par (Φ (n + 3))) body6 [.frz (.str T), .own acc, .frz (.int (pre.length : Nat)), x3, x4] s = r := fun r h =>
          x_seq (x_pk ef (by rfl) rfl (by simp)) (x_seq (x_iteB (k := false) hneg rfl (by rfl)) (x_seq (x_pk ecall hpl rfl (by simp)) h))
        cases hn : isNon (rLine a) with
        | true =>
          rw [hn] at eis
          rw [if_pos rfl]
          exact wh_ex tc (first _ (x_seqX (x_iteB (k := true) eis rfl (x_raise (by rfl) (by rfl) rfl))))
        | false =>
          rw [hn] at eis
          rw [if_neg (by decide)]
          have st : exec (par (Φ (n + 3))) body6 [.frz (.str T), .own acc, .frz (.int (pre.length : Nat)), x3, x4] s = some (.nx [.frz (.str T), .own (acc ++ [rLine a]), .frz (.int ((pre ++ (a ++ [10])).length : Nat)), .frz (.int ((pre.length + a.length : Nat) : Int)), .frz (rLine a)] s) := by
            refine first _ (x_seq (x_iteB (k := false) eis rfl (by rfl)) (x_seq (x_app (d := rLine a) (ds := acc) (by rfl) hpl rfl (by rfl) (show acc.length < 16777216 by omega)) ?_))
            have e2 : ev (par (Φ (n + 3))) (.bin .add (.var 3) (.int 1)) (vis [.frz (.str T), .own (acc ++ [rLine a]), .frz (.int (pre.length : Nat)), .frz (.int ((pre.length + a.length : Nat) : Int)), .frz (rLine a)]) s = some (.int ((pre ++ (a ++ [10])).length : Nat), s) := by
              refine e_bin (x := .int ((pre.length + a.length : Nat) : Int)) (y := .int 1) (by rfl) (by rfl) ?_
              show some (D.int (((pre.length + a.length : Nat) : Int) + 1)) = _
              congr 2
              simp
              omega
            exact x_pk e2 (by rfl) rfl (by simp)
          have ih := rc_loop (n := n) hT (s := s) k (pre ++ (a ++ [10])) b (acc ++ [rLine a]) (.frz (.int ((pre.length + a.length : Nat) : Int))) (.frz (rLine a)) (by rw [hpr, hab]; simp) (by omega) (by simp; omega)
          have eoff : (pre ++ (a ++ [10])).length = pre.length + a.length + 1 := by simp; omega
          rw [eoff] at ih st
          cases hq : rC k b (pre.length + a.length + 1) with
          | inl ds =>
            rw [hq] at ih
            obtain ⟨y2, y3, y4, e⟩ := ih
            exact ⟨y2, y3, y4, (wh_nx tc st).trans (e.trans (by simp))⟩
          | inr p =>
            rw [hq] at ih
            exact (wh_nx tc st).trans ih
end G
set_option Elab.async false
set_option linter.all false
set_option maxRecDepth 100000
set_option maxHeartbeats 4000000
/-! The plain law of k35, part 7: what read_code answers. -/
namespace G
open PySem L2 DL
def flat (ls : List (List Nat)) : List Nat := (ls.map (· ++ [10])).flatten
def OKL (ls : List (List Nat)) : Prop := ∀ l ∈ ls, rLine l ≠ .non ∧ 10 ∉ l
theorem flat_cons {l : List Nat} {ls : List (List Nat)} : flat (l :: ls) = l ++ 10 :: flat ls := by simp [flat]
theorem mem_flat {l : List Nat} : ∀ {ls : List (List Nat)}, l ∈ ls → l.length < (flat ls).length
  | x :: r, h => by
    rw [flat_cons]
    rcases List.mem_cons.mp h with rfl | h
    · simp
    · have := mem_flat h; simp; omega
theorem len_flat : ∀ ls : List (List Nat), ls.length ≤ (flat ls).length
  | [] => by simp
  | x :: r => by
    rw [flat_cons]
    have := len_flat r
    simp; omega
theorem rC_inl : ∀ (k : Nat) (rest : List Nat) (off : Nat) (ds : List D), rest.length < k → rC k rest off = .inl ds → ∃ ls, OKL ls ∧ ds = ls.map rLine ∧ rest = flat ls
  | 0, _, _, _, h, _ => absurd h (Nat.not_lt_zero _)
  | k + 1, rest, off, ds, hk, h => by
    unfold rC at h
    by_cases hr : rest = []
    · rw [if_pos hr] at h
      cases h
      exact ⟨[], fun l hl => absurd hl List.not_mem_nil, rfl, hr⟩
    · rw [if_neg hr] at h
      cases hc : cutNl rest with
      | none => rw [hc] at h; cases h
      | some q =>
        obtain ⟨a, b⟩ := q
        rw [hc] at h
        obtain ⟨hab, h10⟩ := cutNl_some hc
        dsimp only at h
        split at h
        · cases h
        · rename_i hn
          cases hq : rC k b (off + a.length + 1) with
          | inr p => rw [hq] at h; cases h
          | inl es =>
            rw [hq] at h
            cases h
            obtain ⟨ls, h1, h2, h3⟩ := rC_inl k b _ es (by rw [hab] at hk; simp at hk; omega) hq
            refine ⟨a :: ls, fun l hl => ?_, by rw [h2]; rfl, by rw [hab, h3, flat_cons]⟩
            rcases List.mem_cons.mp hl with rfl | hl
            · exact ⟨fun z => hn (isNon_iff.mpr z), h10⟩
            · exact h1 l hl
theorem rC_inr : ∀ (k : Nat) (rest : List Nat) (off p : Nat), rest.length < k → rC k rest off = .inr p → ∃ ls tail, OKL ls ∧ rest = flat ls ++ tail ∧
    ((tail ≠ [] ∧ 10 ∉ tail ∧ p = off + rest.length) ∨ ∃ line r, tail = line ++ 10 :: r ∧ 10 ∉ line ∧ rLine line = .non ∧ p = off + (flat ls).length)
  | 0, _, _, _, h, _ => absurd h (Nat.not_lt_zero _)
  | k + 1, rest, off, p, hk, h => by
    unfold rC at h
    by_cases hr : rest = []
    · rw [if_pos hr] at h
      cases h
    · rw [if_neg hr] at h
      cases hc : cutNl rest with
      | none =>
        rw [hc] at h
        cases h
        exact ⟨[], rest, fun l hl => absurd hl List.not_mem_nil, rfl, .inl ⟨hr, cutNl_none hc, rfl⟩⟩
      | some q =>
        obtain ⟨a, b⟩ := q
        rw [hc] at h
        obtain ⟨hab, h10⟩ := cutNl_some hc
        dsimp only at h
        split at h
        · rename_i hn
          cases h
          exact ⟨[], rest, fun l hl => absurd hl List.not_mem_nil, rfl, .inr ⟨a, b, hab, h10, isNon_iff.mp hn, by simp [flat]⟩⟩
        · rename_i hn
          cases hq : rC k b (off + a.length + 1) with
          | inl es => rw [hq] at h; cases h
          | inr p' =>
            rw [hq] at h
            cases h
            obtain ⟨ls, tail, h1, h2, h3⟩ := rC_inr k b _ p (by rw [hab] at hk; simp at hk; omega) hq
            refine ⟨a :: ls, tail, fun l hl => ?_, by rw [hab, h2, flat_cons]; simp, ?_⟩
            · rcases List.mem_cons.mp hl with rfl | hl
              · exact ⟨fun z => hn (isNon_iff.mpr z), h10⟩
              · exact h1 l hl
            · rcases h3 with ⟨t1, t2, t3⟩ | ⟨line, r, t1, t2, t3, t4⟩
              · refine .inl ⟨t1, t2, ?_⟩
                rw [t3, hab]; simp; omega
              · refine .inr ⟨line, r, t1, t2, t3, ?_⟩
                rw [t4, flat_cons]; simp; omega
theorem rC_flat : ∀ (ls : List (List Nat)) (k off : Nat), OKL ls → (flat ls).length < k → rC k (flat ls) off = .inl (ls.map rLine)
  | [], k, off, _, h => by
    cases k with
    | zero => simp at h
    | succ k =>
      show rC (k + 1) [] off = .inl []
      unfold rC
      rw [if_pos rfl]
  | l :: ls, k, off, ho, h => by
    cases k with
    | zero => simp at h
    | succ k =>
      obtain ⟨h1, h2⟩ := ho l (List.mem_cons_self ..)
      unfold rC
      rw [flat_cons] at h ⊢
      rw [if_neg (by simp), cutNl_app h2]
      dsimp only
      rw [if_neg (fun z => h1 (isNon_iff.mp z)), rC_flat ls k _ (fun x hx => ho x (List.mem_cons_of_mem _ hx)) (by simp at h; omega)]
      rfl
def rCode (T : List Nat) : List D ⊕ Nat := rC 1000000000 T 0
theorem purs_ls : ∀ {ls : List (List Nat)}, OKL ls → (flat ls).length + 2 ≤ SZ → purs (ls.map rLine) = true
  | [], _, _ => rfl
  | l :: ls, h, hl => by
    rw [flat_cons] at hl
    have hl' : (l ++ 10 :: flat ls).length + 2 ≤ 16777216 := hl
    simp at hl'
    show (pur (rLine l) && purs (ls.map rLine)) = true
    rw [(back (n := 0) (s := []) (show l.length + 2 ≤ 16777216 by omega) (h l (List.mem_cons_self ..)).1).1, purs_ls (fun x hx => h x (List.mem_cons_of_mem _ hx)) (show (flat ls).length + 2 ≤ 16777216 by omega)]
    rfl
theorem runx_rt {P : Par} {f : Fn} {xs : List D} {s s' : Ss} {d : D} (hn : xs.length = f.np) (h : exec P f.body (xs.map .frz ++ List.replicate (f.nl - f.np) .nil) s = some (.rt false d s')) : runX P f xs s = some (.inl d, s') := by
  unfold runX
  rw [if_pos hn, h]
theorem runx_ex {P : Par} {f : Fn} {xs : List D} {s s' : Ss} {d : D} (hn : xs.length = f.np) (h : exec P f.body (xs.map .frz ++ List.replicate (f.nl - f.np) .nil) s = some (.ex d s')) : runX P f xs s = some (.inr d, s') := by
  unfold runX
  rw [if_pos hn, h]
theorem e_code {n : Nat} {T : List Nat} {s : Ss} (hT : T.length + 2 ≤ SZ) : ΦX (n + 4) 6 [.str T] s = some (match rCode T with
    | .inl ds => .inl (.tup ds)
    | .inr p => .inr (.int (p : Nat)), s) := by
  show runX (par (Φ (n + 3))) f6 [.str T] s = _
  have hT' : T.length + 2 ≤ 16777216 := hT
  have lp := rc_loop (n := n) hT (s := s) 1000000000 [] T [] .nil .nil rfl (by omega) (Nat.le_refl _)
  have lp : match rCode T with
    | .inl ds => ∃ y2 y3 y4, exec (par (Φ (n + 3))) (.while_ cond6 body6) [.frz (.str T), .own [], .frz (.int 0), .nil, .nil] s = some (.nx [.frz (.str T), .own ([] ++ ds), y2, y3, y4] s)
    | .inr p => exec (par (Φ (n + 3))) (.while_ cond6 body6) [.frz (.str T), .own [], .frz (.int 0), .nil, .nil] s = some (.ex (.int (p : Nat)) s) := lp
  have start : ∀ r, exec (par (Φ (n + 3))) (.seq (.while_ cond6 body6) (.ret .pk (.bi .tuple (.var 1)))) [.frz (.str T), .own [], .frz (.int 0), .nil, .nil] s = r → exec (par (Φ (n + 3))) b6 [.frz (.str T), .nil, .nil, .nil, .nil] s = r := fun r h =>
    x_seq (x_fr (ds := []) (by rfl) (by rfl) (by rfl) (by rfl) (by simp)) (x_seq (x_pk (d := .int 0) (by rfl) (by rfl) (by rfl) (by simp)) h)
  cases hr : rCode T with
  | inl ds =>
    rw [hr] at lp
    obtain ⟨y2, y3, y4, e⟩ := lp
    obtain ⟨ls, h1, h2, h3⟩ := rC_inl 1000000000 T 0 ds (by omega) hr
    refine runx_rt rfl (start _ (x_seq e (x_ret (d := .tup ds) (e_bi (x := .lst ([] ++ ds)) (by rfl) (by rfl)) ?_ rfl)))
    show purs ds = true
    rw [h2]
    exact purs_ls h1 (by rw [← h3]; exact hT)
  | inr p =>
    rw [hr] at lp
    exact runx_ex rfl (start _ (x_seqX lp))
theorem e_read {n : Nat} {T : List Nat} {s : Ss} (hT : T.length + 2 ≤ SZ) : Φ (n + 5) 15 [.str T] s = some (match rCode T with
    | .inl ds => .tup [.str [99, 111, 100, 101], .tup ds]
    | .inr p => .tup [.str [119, 114, 111, 110, 103], .int (p : Nat)], s) := by
  show (match ΦX (n + 4) 6 [.str T] s with
    | some (.inl v, s2) => some (D.tup [.str [99, 111, 100, 101], v], s2)
    | some (.inr v, s2) => some (D.tup [.str [119, 114, 111, 110, 103], v], s2)
    | none => none) = _
  rw [e_code hT]
  cases rCode T <;> rfl
theorem e_codeP {n : Nat} {ls : List (List Nat)} {s : Ss} (ho : OKL ls) (hT : (flat ls).length + 2 ≤ SZ) : Φ (n + 4) 6 [.str (flat ls)] s = some (.tup (ls.map rLine), s) := by
  show (match ΦX (n + 4) 6 [.str (flat ls)] s with
    | some (.inl d, s') => some (d, s')
    | _ => none) = _
  rw [e_code hT]
  have hT' : (flat ls).length + 2 ≤ 16777216 := hT
  have : rCode (flat ls) = .inl (ls.map rLine) := rC_flat ls _ _ ho (by omega)
  rw [this]
end G
set_option Elab.async false
set_option linter.all false
set_option maxRecDepth 100000
set_option maxHeartbeats 4000000
/-! The plain law of k35, part 8: write_instruction, write_code, the texts joined. -/
namespace G
open PySem L2 DL
theorem rLine_shape {l : List Nat} (h : rLine l ≠ .non) : ∃ w0 ws, splitL 32 l = w0 :: ws ∧ ((∃ sh ps, ws.length = sh.length ∧ sh.length ≤ 2 ∧ lp sh ws = some ps ∧ rLine l = .tup (.str w0 :: ps)) ∨ ∃ w1 r cs, ws = w1 :: r ∧ chs r = some cs ∧ rLine l = .tup [.str w0, .str w1, .tup (cs.map tri)]) := by
  obtain ⟨w0, ws, hs⟩ : ∃ w0 ws, splitL 32 l = w0 :: ws := by
    cases q : splitL 32 l with
    | nil => exact absurd q (split_ne l)
    | cons a b => exact ⟨a, b, rfl⟩
  refine ⟨w0, ws, hs, ?_⟩
  have hr : rLine l = rWs w0 ws := by unfold rLine; rw [hs]
  rw [hr] at h ⊢
  revert h
  unfold rWs
  cases ht : tget tab0 w0 with
  | none => intro h; exact absurd rfl h
  | some d =>
    obtain ⟨sh, rfl, hsh⟩ := tab_str ht
    dsimp only
    by_cases h0 : w0 = WAIT
    · rw [if_pos h0]
      rcases chD_cases (ws.drop 1) with h | ⟨cs, hne, hcs, h⟩ <;> rw [h]
      · intro h; exact absurd rfl h
      · obtain ⟨w1, r, rfl⟩ : ∃ w1 r, ws = w1 :: r := by cases ws with | nil => exact absurd rfl hne | cons a b => exact ⟨a, b, rfl⟩
        dsimp only
        by_cases hn : nameOk ((w1 :: r).headD []) = true
        case neg => rw [if_neg hn]; intro h; exact absurd rfl h
        case pos =>
          rw [if_pos hn]
          intro _
          exact .inr ⟨w1, r, cs, rfl, hcs, by rw [h0]; rfl⟩
    · rw [if_neg h0]
      by_cases h1 : ws.length = sh.length
      case neg => rw [if_neg h1]; intro h; exact absurd rfl h
      rw [if_pos h1]
      cases hq : lp sh ws with
      | none => intro h; exact absurd rfl h
      | some ps =>
        intro _
        exact .inl ⟨sh, ps, h1, hsh, hq, rfl⟩
theorem x_ext {P : Par} {ρ : DL.Env} {s s' : Ss} {e : E} {i : Nat} {ds xs : List D} (h : ev P e (vis ρ) s = some (.lst xs, s')) (hp : purs xs = true) (hs : s'.length = s.length) (hi : ρ[i]? = some (.own ds)) (hl : ds.length + xs.length ≤ SZ) : exec P (.ext i e) ρ s = some (.nx (ρ.set i (.own (ds ++ xs))) s') := by
  simp only [DL.exec, h, bnd, hi, okc_of hs, hp, hl, decide_true, Bool.and_self, if_true]
def c0i : DL.S := .ext 1 (.lst (.cons (.var 3) (.cons (.var 4) (.cons (.bi .str (.var 5)) (.nil)))))
def c0 : DL.S := .ite (.bi (.isi 3) (.var 2)) (.for_ .tup (.var 2) (.tps [3, 4, 5]) c0i) (.app 1 .pk (.bi .str (.var 2)))
theorem pt_step0 {F : Nat → Fn1} {d p : D} {w : List Nat} {acc : List D} {x3 x4 x5 : DL.Slot} {s : Ss} (h1 : dbi .str p = some (.str w)) (h2 : dbi (.isi 3) p = some (.bl false)) (hl : acc.length < SZ) :
    exec (par F) c0 [.frz d, .own acc, .frz p, x3, x4, x5] s = some (.nx [.frz d, .own (acc ++ [.str w]), .frz p, x3, x4, x5] s) :=
  x_iteB (k := false) (e_bi (x := p) (by rfl) h2) rfl (x_app (e_bi (x := p) (by rfl) h1) (by rfl) (by rfl) (by rfl) hl)
theorem lp_loop0 {F : Nat → Fn1} {d : D} {s : Ss} : ∀ (sh : List Nat) (ws : List (List Nat)) (ps acc : List D) (x2 x3 x4 x5 : DL.Slot), ws.length = sh.length → lp sh ws = some ps → acc.length + ws.length ≤ SZ →
    ∃ y2, forF (fun x ρ s => (tgS (.nm 2) x ρ).bind fun ρ' => exec (par F) c0 ρ' s) ps [.frz d, .own acc, x2, x3, x4, x5] s = some (.nx [.frz d, .own (acc ++ ws.map D.str), y2, x3, x4, x5] s)
  | [], [], ps, acc, x2, x3, x4, x5, _, h, _ => by cases h; exact ⟨x2, by simp [forF]⟩
  | [], _ :: _, _, _, _, _, _, _, h, _, _ => by simp at h
  | _ :: _, [], _, _, _, _, _, _, h, _, _ => by simp at h
  | c :: sh, w :: ws, ps, acc, x2, x3, x4, x5, hl, h, hz => by
    unfold lp at h
    have hz' : acc.length + (ws.length + 1) ≤ 16777216 := hz
    cases hp : pt c w with
    | none => rw [hp] at h; cases h
    | some p =>
      rw [hp] at h
      cases hq : lp sh ws with
      | none => rw [hq] at h; cases h
      | some qs =>
        rw [hq] at h
        cases h
        obtain ⟨h1, h2⟩ := pt_str hp
        obtain ⟨y2, e⟩ := lp_loop0 (F := F) (d := d) (s := s) sh ws qs (acc ++ [.str w]) (.frz p) x3 x4 x5 (by simpa using hl) hq (by show (acc ++ [D.str w]).length + ws.length ≤ 16777216; simp; omega)
        exact ⟨y2, (for_nx (pt_step0 h1 h2 (show acc.length < 16777216 by omega))).trans (e.trans (by simp))⟩
theorem ci_loop0 {F : Nat → Fn1} {d : D} {x2 : DL.Slot} {s : Ss} : ∀ (ws : List (List Nat)) (cs : List Tri) (acc : List D) (x3 x4 x5 : DL.Slot), chs ws = some cs → acc.length + ws.length ≤ SZ →
    ∃ y3 y4 y5, forF (fun x ρ s => (tgS (.tps [3, 4, 5]) x ρ).bind fun ρ' => exec (par F) c0i ρ' s) (cs.map tri) [.frz d, .own acc, x2, x3, x4, x5] s = some (.nx [.frz d, .own (acc ++ ws.map D.str), x2, y3, y4, y5] s)
  | [], cs, acc, x3, x4, x5, h, _ => by cases h; exact ⟨x3, x4, x5, by simp [forF]⟩
  | [_], _, _, _, _, _, h, _ => by cases h
  | [_, _], _, _, _, _, _, h, _ => by cases h
  | a :: b :: c :: r, cs, acc, x3, x4, x5, h, hz => by
    unfold chs at h
    have hz' : acc.length + (r.length + 3) ≤ 16777216 := hz
    split at h
    · cases hn : num c with
      | none => rw [hn] at h; cases h
      | some g =>
        rw [hn] at h
        cases hq : chs r with
        | none => rw [hq] at h; cases h
        | some qs =>
          rw [hq] at h
          cases h
          obtain ⟨h1, h2, h3⟩ := num_text hn
          obtain ⟨y3, y4, y5, e⟩ := ci_loop0 (F := F) (d := d) (x2 := x2) (s := s) r qs (acc ++ [.str a, .str b, .str c]) (.frz (.str a)) (.frz (.str b)) (.frz (.int g)) hq (by show (acc ++ [D.str a, D.str b, D.str c]).length + r.length ≤ 16777216; simp; omega)
          refine ⟨y3, y4, y5, (for_nx (ρ' := [.frz d, .own (acc ++ [.str a, .str b, .str c]), x2, .frz (.str a), .frz (.str b), .frz (.int g)]) (s' := s) ?_).trans (e.trans (by simp))⟩
          show exec (par F) c0i [.frz d, .own acc, x2, .frz (.str a), .frz (.str b), .frz (.int g)] s = _
          have el : ev (par F) (.lst (.cons (.var 3) (.cons (.var 4) (.cons (.bi .str (.var 5)) (.nil))))) (vis [.frz d, .own acc, x2, .frz (.str a), .frz (.str b), .frz (.int g)]) s = some (.lst [.str a, .str b, .str c], s) := by
            refine e_lst (e_cons (by rfl) (e_cons (by rfl) (e_cons1 (e_bi (x := .int g) (by rfl) ?_)))) (by show 3 ≤ SZ; decide)
            have q : dbi .str (.int g) = if 0 ≤ g ∧ g < 10 ^ 10 then some (.str (toText g)) else none := rfl
            rw [q, if_pos ⟨h2, by omega⟩, h1]
          exact x_ext el (by rfl) (by rfl) (by rfl) (show acc.length + 3 ≤ 16777216 by omega)
    · cases h
theorem back0 {n : Nat} {l : List Nat} {s : Ss} (hl : l.length + 2 ≤ SZ) (h : rLine l ≠ .non) : Φ (n + 1) 0 [rLine l] s = some (.str (l ++ [10]), s) := by
  obtain ⟨w0, ws, hs, hsh⟩ := rLine_shape h
  have hsum := split_sum 32 l
  have hjoin := join_split (c := 32) l
  rw [hs] at hsum hjoin
  have hl' : l.length + 2 ≤ 16777216 := hl
  have key : ∀ d : D, ∀ ps, d = .tup (.str w0 :: ps) → (∃ y2 y3 y4 y5, forF (fun x ρ s => (tgS (.nm 2) x ρ).bind fun ρ' => exec (par (Φ n)) c0 ρ' s) ps [.frz d, .own [.str w0], .nil, .nil, .nil, .nil] s = some (.nx [.frz d, .own ([.str w0] ++ ws.map D.str), y2, y3, y4, y5] s)) → Φ (n + 1) 0 [d] s = some (.str (l ++ [10]), s) := by
    rintro d ps rfl ⟨y2, y3, y4, y5, e⟩
    show runF (par (Φ n)) f0 [.tup (.str w0 :: ps)] s = _
    refine run_rt rfl rfl ?_
    show exec (par (Φ n)) b0 [.frz (.tup (.str w0 :: ps)), .nil, .nil, .nil, .nil, .nil] s = _
    have i0 : ev (par (Φ n)) (.idx (.var 0) (.int 0)) (vis [.frz (.tup (.str w0 :: ps)), .nil, .nil, .nil, .nil, .nil]) s = some (.str w0, s) := e_idx (x := .tup (.str w0 :: ps)) (y := .int 0) (by rfl) (by rfl) (by
      show at? (D.str w0 :: ps) 0 = _
      rw [at_nat (j := 0) (i := 0) rfl (by simp)]; rfl)
    refine x_seq (x_fr (ds := [.str w0]) (e_lst (e_cons1 i0) (by show 1 ≤ SZ; decide)) (by rfl) (by rfl) (by rfl) (by simp)) ?_
    show exec (par (Φ n)) _ [.frz (.tup (.str w0 :: ps)), .own [.str w0], .nil, .nil, .nil, .nil] s = _
    have es : ev (par (Φ n)) (.slc .tup (.var 0) (.int 1) (.nop)) (hid [.frz (.tup (.str w0 :: ps)), .own [.str w0], .nil, .nil, .nil, .nil]) s = some (.tup ps, s) := by
      refine e_slc (x := .tup (.str w0 :: ps)) (l := .int 1) (h := .non) (by rfl) (by rfl) (by rfl) (L := some 1) (by rfl) (Hh := none) (by rfl) ?_
      have q : dsl .tup (.tup (.str w0 :: ps)) (some 1) none = if six (D.str w0 :: ps).length 0 (some 1) = 0 ∧ six (D.str w0 :: ps).length (D.str w0 :: ps).length none = (D.str w0 :: ps).length then none else some (.tup (cut (D.str w0 :: ps) (some 1) none)) := rfl
      have q6 : six (D.str w0 :: ps).length 0 (some 1) = min 1 (D.str w0 :: ps).length := six_some (k := 1)
      rw [q, q6, if_neg (by simp), cut_drop (j := 1) (k := 1) rfl]
      rfl
    refine x_seq (x_for (k := .tup) es rfl rfl e) ?_
    have ej : ev (par (Φ n)) (.me .join (.str [32]) (.cons (.var 1) (.nil))) (vis [.frz (.tup (.str w0 :: ps)), .own ([.str w0] ++ ws.map D.str), y2, y3, y4, y5]) s = some (.str l, s) := by
      refine e_me (x := .str [32]) (y := .tup [.lst ((w0 :: ws).map D.str)]) (by rfl) (e_cons1 (by rfl)) ?_
      have q : dme .join (.str [32]) (.tup [.lst ((w0 :: ws).map D.str)]) = (strs? ((w0 :: ws).map D.str)).bind fun l => if (l.map (·.length)).sum + l.length * [32].length ≤ 16777216 then some (.str (joinL [32] l)) else none := rfl
      rw [q, strs_map, Option.bind_some, if_pos (by simp at hsum ⊢; omega), hjoin]
    refine x_ret (e_bin (x := .str l) (y := .str [10]) ej (by rfl) ?_) (by rfl) (by rfl)
    show (if _ then _ else none) = _
    rw [if_pos (show l.length + [10].length ≤ SZ by show l.length + 1 ≤ 16777216; omega)]
  rcases hsh with ⟨sh, ps, h1, h2, hq, e0⟩ | ⟨w1, r, cs, rfl, hcs, e0⟩
  · rw [e0]
    obtain ⟨y2, e⟩ := lp_loop0 (F := Φ n) (d := .tup (.str w0 :: ps)) (s := s) sh ws ps [.str w0] .nil .nil .nil .nil h1 hq (by show 1 + ws.length ≤ 16777216; simp at hsum; omega)
    exact key _ ps rfl ⟨y2, .nil, .nil, .nil, e⟩
  · rw [e0]
    refine key _ [.str w1, .tup (cs.map tri)] rfl ?_
    have s1 := pt_step0 (F := Φ n) (d := .tup [.str w0, .str w1, .tup (cs.map tri)]) (p := .str w1) (w := w1) (acc := [.str w0]) (x3 := .nil) (x4 := .nil) (x5 := .nil) (s := s) rfl rfl (by show 1 < SZ; decide)
    obtain ⟨y3, y4, y5, e⟩ := ci_loop0 (F := Φ n) (d := .tup [.str w0, .str w1, .tup (cs.map tri)]) (x2 := .frz (.tup (cs.map tri))) (s := s) r cs [.str w0, .str w1] .nil .nil .nil hcs (by show 2 + r.length ≤ 16777216; simp at hsum; omega)
    refine ⟨.frz (.tup (cs.map tri)), y3, y4, y5, (for_nx s1).trans ((for_nx (ρ' := [.frz (.tup [.str w0, .str w1, .tup (cs.map tri)]), .own ([.str w0, .str w1] ++ r.map D.str), .frz (.tup (cs.map tri)), y3, y4, y5]) (s' := s) ?_).trans (by simp [forF]))⟩
    show exec (par (Φ n)) c0 [.frz (.tup [.str w0, .str w1, .tup (cs.map tri)]), .own ([.str w0] ++ [.str w1]), .frz (.tup (cs.map tri)), .nil, .nil, .nil] s = _
    exact x_iteB (k := true) (e_bi (x := .tup (cs.map tri)) (by rfl) (by rfl)) rfl (x_for (k := .tup) (d := .tup (cs.map tri)) (by rfl) rfl rfl e)
/-! texts joined -/
theorem joinL_nil : ∀ xs : List (List Nat), joinL [] xs = xs.flatten
  | [] => rfl
  | [x] => by simp [joinL]
  | x :: y :: r => by
    show x ++ [] ++ joinL [] (y :: r) = _
    rw [joinL_nil (y :: r)]; simp
theorem sum_flat : ∀ ls : List (List Nat), ((ls.map (· ++ [10])).map (·.length)).sum = (flat ls).length
  | [] => rfl
  | l :: ls => by
    rw [flat_cons]
    have := sum_flat ls
    simp at this ⊢
    omega
theorem e_compc {F : Nat → Fn1} {v i fn : Nat} {ρ : Vw} {ls : List (List Nat)} {s : Ss} (hv : ρ[v]? = some (some (.tup (ls.map rLine)))) (hi : i < ρ.length) (hl : (flat ls).length + 2 ≤ SZ) (hc : ∀ l ∈ ls, F fn [rLine l] s = some (.str (l ++ [10]), s)) :
    ev (par F) (.comp .tup (.var v) (.nm i) [i] .nop (.call fn (.cons (.var i) .nil))) ρ s = some (.lst ((ls.map (· ++ [10])).map D.str), s) := by
  have key := compF_map (step := cstep (par F) (.nm i) [i] .nop (.call fn (.cons (.var i) .nil)) ρ) (s := s) (g := fun x => match F fn [x] s with | some (d, _) => d | none => .non) (xs := ls.map rLine) (by
    intro x hx
    obtain ⟨l, hm, rfl⟩ := List.mem_map.mp hx
    refine cstep_nop (ρ' := (ρ.set i none).set i (some (rLine l))) (by simp [tgO, wipeO, hi]) ?_
    rw [hc l hm]
    exact e_call1 (e_var (by simp [hi])) (hc l hm))
  have hl' : (flat ls).length + 2 ≤ 16777216 := hl
  have := ev_comp (P := par F) (d := .tup (ls.map rLine)) (k := .tup) (e_var hv) rfl (show (ls.map rLine).length ≤ 16777216 by have := len_flat ls; simp; omega) (by simp [tgIn]) key
  rw [this]
  congr 2
  rw [List.map_map, List.map_map]
  congr 1
  exact List.map_congr_left fun l hm => by
    show (match F fn [rLine l] s with | some (d, _) => d | none => .non) = _
    rw [hc l hm]; rfl
theorem e_joinc {F : Nat → Fn1} {v i fn : Nat} {ρ : Vw} {ls : List (List Nat)} {s : Ss} (hv : ρ[v]? = some (some (.tup (ls.map rLine)))) (hi : i < ρ.length) (hl : (flat ls).length + 2 ≤ SZ) (hc : ∀ l ∈ ls, F fn [rLine l] s = some (.str (l ++ [10]), s)) :
    ev (par F) (.me .join (.str []) (.cons (.comp .tup (.var v) (.nm i) [i] .nop (.call fn (.cons (.var i) .nil))) .nil)) ρ s = some (.str (flat ls), s) := by
  refine e_me (x := .str []) (y := .tup [.lst ((ls.map (· ++ [10])).map D.str)]) (by rfl) (e_cons1 (e_compc hv hi hl hc)) ?_
  have q : dme .join (.str []) (.tup [.lst ((ls.map (· ++ [10])).map D.str)]) = (strs? ((ls.map (· ++ [10])).map D.str)).bind fun l => if (l.map (·.length)).sum + l.length * ([] : List Nat).length ≤ 16777216 then some (.str (joinL [] l)) else none := rfl
  have hl' : (flat ls).length + 2 ≤ 16777216 := hl
  rw [q, strs_map, Option.bind_some, if_pos (by rw [sum_flat]; simp; omega), joinL_nil]
  rfl
theorem e_wcode {n : Nat} {ls : List (List Nat)} {s : Ss} (ho : OKL ls) (hl : (flat ls).length + 2 ≤ SZ) : Φ (n + 2) 1 [.tup (ls.map rLine)] s = some (.str (flat ls), s) := by
  have hl' : (flat ls).length + 2 ≤ 16777216 := hl
  show runF (par (Φ (n + 1))) f1 [.tup (ls.map rLine)] s = _
  refine run_rt rfl rfl ?_
  show exec (par (Φ (n + 1))) b1 [.frz (.tup (ls.map rLine)), .nil] s = _
  exact x_ret (e_joinc (v := 0) (i := 1) (fn := 0) (by rfl) (by simp [vis]) hl fun l hm => back0 (by have := mem_flat hm; show l.length + 2 ≤ 16777216; omega) (ho l hm).1) (by rfl) (by rfl)
end G
set_option Elab.async false
set_option linter.all false
set_option maxRecDepth 100000
set_option maxHeartbeats 4000000
/-! The plain law of k35, part 9: same. -/
namespace G
open PySem L2 DL
inductive Sv : Nat → D → Prop
  | str (k : Nat) (a : List Nat) : Sv k (.str a)
  | int (k : Nat) (i : Int) : Sv k (.int i)
  | tup (k : Nat) (xs : List D) (hl : xs.length ≤ SZ) (h : ∀ x ∈ xs, Sv k x) : Sv (k + 1) (.tup xs)
theorem same_str {n : Nat} {a : List Nat} {s : Ss} : Φ (n + 1) 11 [.str a, .str a] s = some (.bl true, s) := by
  show runF (par (Φ n)) f11 [.str a, .str a] s = _
  refine run_rt rfl rfl ?_
  show exec (par (Φ n)) b11 [.frz (.str a), .frz (.str a), .nil] s = _
  refine x_seq (x_iteB (k := false) (by rfl) rfl (by rfl)) (x_seq (x_iteB (k := false) (by rfl) rfl (by rfl)) (x_seq (x_iteB (k := false) (by rfl) rfl (by rfl)) (x_seqR (x_iteB (k := true) (by rfl) rfl ?_))))
  refine x_ret (e_and (x := .bl true) (k := true) (by rfl) (by rfl) ?_) (by rfl) (by rfl)
  refine e_cmp (x := .str a) (y := .str a) (k := true) (by rfl) (by rfl) ?_
  show some (decide (a = a)) = _
  simp
theorem same_int {n : Nat} {i : Int} {s : Ss} : Φ (n + 2) 11 [.int i, .int i] s = some (.bl true, s) := by
  show runF (par (Φ (n + 1))) f11 [.int i, .int i] s = _
  refine run_rt rfl rfl ?_
  show exec (par (Φ (n + 1))) b11 [.frz (.int i), .frz (.int i), .nil] s = _
  refine x_seq (x_iteB (k := false) (by rfl) rfl (by rfl)) (x_seq (x_iteB (k := false) (by rfl) rfl (by rfl)) (x_seqR (x_iteB (k := true) (by rfl) rfl ?_)))
  have c9 : Φ (n + 1) 9 [.int i] s = some (.bl true, s) := by
    show runF (par (Φ n)) f9 [.int i] s = _
    refine run_rt rfl rfl ?_
    show exec (par (Φ n)) b9 [.frz (.int i)] s = _
    exact x_ret (e_and (x := .bl true) (k := true) (by rfl) (by rfl) (by rfl)) (by rfl) (by rfl)
  refine x_ret (e_and (x := .bl true) (k := true) (e_call1 (f := 9) (x := .int i) (by rfl) c9) (by rfl) ?_) (by rfl) (by rfl)
  refine e_cmp (x := .int i) (y := .int i) (k := true) (by rfl) (by rfl) ?_
  show some (decide (i = i)) = _
  simp
def c10 : DL.S := .ite (.not_ (.call 11 (.cons (.idx (.var 0) (.var 2)) (.cons (.idx (.var 1) (.var 2)) (.nil))))) (.ret .pk (.bl false)) (.skip)
theorem items_loop {F : Nat → Fn1} {xs : List D} {s : Ss} (h : ∀ x ∈ xs, F 11 [x, x] s = some (.bl true, s)) : ∀ (js : List Nat) (x2 : DL.Slot), (∀ j ∈ js, j < xs.length) →
    ∃ y2, forF (fun x ρ s => (tgS (.nm 2) x ρ).bind fun ρ' => exec (par F) c10 ρ' s) (js.map fun j : Nat => .int (j : Int)) [.frz (.tup xs), .frz (.tup xs), x2] s = some (.nx [.frz (.tup xs), .frz (.tup xs), y2] s)
  | [], x2, _ => ⟨x2, rfl⟩
  | j :: js, x2, hj => by
    have hlt := hj j (List.mem_cons_self ..)
    obtain ⟨y2, e⟩ := items_loop (F := F) h js (.frz (.int (j : Int))) fun i hi => hj i (List.mem_cons_of_mem _ hi)
    refine ⟨y2, (for_nx (ρ' := [.frz (.tup xs), .frz (.tup xs), .frz (.int (j : Int))]) (s' := s) ?_).trans e⟩
    show exec (par F) c10 [.frz (.tup xs), .frz (.tup xs), .frz (.int (j : Int))] s = _
    have ix : dix (.tup xs) (.int (j : Int)) = some xs[j] := at_nat rfl hlt
    exact x_iteB (k := false) (e_not (k := true) (e_call (f := 11) (e_cons (e_idx (x := .tup xs) (y := .int (j : Int)) (by rfl) (by rfl) ix) (e_cons1 (e_idx (x := .tup xs) (y := .int (j : Int)) (by rfl) (by rfl) ix))) (h xs[j] (List.getElem_mem hlt))) (by rfl)) rfl (by rfl)
theorem same_items {n : Nat} {xs : List D} {s : Ss} (hl : xs.length ≤ SZ) (h : ∀ x ∈ xs, Φ n 11 [x, x] s = some (.bl true, s)) : Φ (n + 1) 10 [.tup xs, .tup xs] s = some (.bl true, s) := by
  show runF (par (Φ n)) f10 [.tup xs, .tup xs] s = _
  refine run_rt rfl rfl ?_
  show exec (par (Φ n)) b10 [.frz (.tup xs), .frz (.tup xs), .nil] s = _
  have hl' : xs.length ≤ 16777216 := hl
  have c1 : ev (par (Φ n)) (.cmp .ne (.bi .len (.var 0)) (.bi .len (.var 1))) (vis [.frz (.tup xs), .frz (.tup xs), .nil]) s = some (.bl false, s) := by
    refine e_cmp (x := .int (xs.length : Nat)) (y := .int (xs.length : Nat)) (by rfl) (by rfl) ?_
    show some (!decide (((xs.length : Nat) : Int) = ((xs.length : Nat) : Int))) = _
    simp
  refine x_seq (x_iteB (k := false) c1 rfl (by rfl)) ?_
  obtain ⟨y2, e⟩ := items_loop (F := Φ n) h (List.range xs.length) .nil fun j hj => List.mem_range.mp hj
  exact x_seq (x_for (k := .rng1) (d := .tup [.int (xs.length : Nat)]) (by rfl) rfl (it_rng1 (by omega)) e) (x_ret (by rfl) (by rfl) (by rfl))
theorem same_tup {n : Nat} {xs : List D} {s : Ss} (hl : xs.length ≤ SZ) (h : ∀ x ∈ xs, Φ n 11 [x, x] s = some (.bl true, s)) : Φ (n + 2) 11 [.tup xs, .tup xs] s = some (.bl true, s) := by
  show runF (par (Φ (n + 1))) f11 [.tup xs, .tup xs] s = _
  refine run_rt rfl rfl ?_
  show exec (par (Φ (n + 1))) b11 [.frz (.tup xs), .frz (.tup xs), .nil] s = _
  refine x_seq (x_iteB (k := false) (by rfl) rfl (by rfl)) (x_seq (x_iteB (k := false) (by rfl) rfl (by rfl)) (x_seq (x_iteB (k := false) (by rfl) rfl (by rfl)) (x_seq (x_iteB (k := false) (by rfl) rfl (by rfl)) (x_seqR (x_iteB (k := true) (by rfl) rfl ?_)))))
  exact x_ret (e_and (x := .bl true) (k := true) (by rfl) (by rfl) (e_call (f := 10) (xs := [.tup xs, .tup xs]) (by rfl) (same_items hl h))) (by rfl) (by rfl)
theorem same_sv : ∀ {k : Nat} {d : D}, Sv k d → ∀ (n : Nat) (s : Ss), Φ (n + 2 * k + 2) 11 [d, d] s = some (.bl true, s) := by
  intro k d h
  induction h with
  | str k a => exact fun n s => same_str
  | int k i => exact fun n s => same_int
  | tup k xs hl h ih => exact fun n s => same_tup (n := n + 2 * k + 2) hl fun x hx => ih x hx n s
theorem sv_mono {k : Nat} {d : D} (h : Sv k d) : Sv (k + 1) d := by
  induction h with
  | str k a => exact .str _ _
  | int k i => exact .int _ _
  | tup k xs hl h ih => exact .tup _ _ hl ih
theorem sv_lp : ∀ (sh : List Nat) (ws : List (List Nat)) (ps : List D), lp sh ws = some ps → (∀ p ∈ ps, Sv 0 p) ∧ ps.length ≤ sh.length
  | [], ws, ps, h => by unfold lp at h; cases h; exact ⟨fun p hp => absurd hp List.not_mem_nil, Nat.le_refl _⟩
  | c :: sh, [], ps, h => by unfold lp at h; cases h; exact ⟨fun p hp => absurd hp List.not_mem_nil, Nat.zero_le _⟩
  | c :: sh, w :: ws, ps, h => by
    unfold lp at h
    cases hp : pt c w with
    | none => rw [hp] at h; cases h
    | some p =>
      rw [hp] at h
      cases hq : lp sh ws with
      | none => rw [hq] at h; cases h
      | some qs =>
        rw [hq] at h
        cases h
        obtain ⟨i1, i2⟩ := sv_lp sh ws qs hq
        refine ⟨fun x hx => ?_, by simp; omega⟩
        rcases List.mem_cons.mp hx with rfl | hx
        · unfold pt at hp
          split at hp
          · cases hn : num w with
            | none => rw [hn] at hp; cases hp
            | some v => rw [hn] at hp; cases hp; exact .int _ _
          · split at hp
            · cases hp; exact .str _ _
            · cases hp
        · exact i1 x hx
theorem chs_len : ∀ (ws : List (List Nat)) (cs : List Tri), chs ws = some cs → cs.length ≤ ws.length
  | [], cs, h => by cases h; exact Nat.le_refl _
  | [_], _, h => by cases h
  | [_, _], _, h => by cases h
  | a :: b :: c :: r, cs, h => by
    unfold chs at h
    split at h
    · cases hn : num c with
      | none => rw [hn] at h; cases h
      | some g =>
        rw [hn] at h
        cases hq : chs r with
        | none => rw [hq] at h; cases h
        | some qs =>
          rw [hq] at h
          cases h
          have := chs_len r qs hq
          simp; omega
    · cases h
theorem sv_line {l : List Nat} (hl : l.length + 2 ≤ SZ) (h : rLine l ≠ .non) : Sv 3 (rLine l) := by
  have hl' : l.length + 2 ≤ 16777216 := hl
  obtain ⟨w0, ws, hs, hsh⟩ := rLine_shape h
  have hsum := split_sum 32 l
  rw [hs] at hsum
  rcases hsh with ⟨sh, ps, h1, h2, hq, e0⟩ | ⟨w1, r, cs, rfl, hcs, e0⟩
  · rw [e0]
    obtain ⟨i1, i2⟩ := sv_lp sh ws ps hq
    refine .tup _ _ (show (D.str w0 :: ps).length ≤ 16777216 by simp; omega) fun x hx => ?_
    rcases List.mem_cons.mp hx with rfl | hx
    · exact .str _ _
    · exact sv_mono (sv_mono (i1 x hx))
  · rw [e0]
    have hc := chs_len r cs hcs
    refine .tup _ _ (by show 3 ≤ SZ; decide) fun x hx => ?_
    simp at hx
    rcases hx with rfl | rfl | rfl
    · exact .str _ _
    · exact .str _ _
    · refine .tup _ _ (show (cs.map tri).length ≤ 16777216 by simp at hsum ⊢; omega) fun y hy => ?_
      obtain ⟨t, _, rfl⟩ := List.mem_map.mp hy
      refine .tup _ _ (by show 3 ≤ SZ; decide) fun z hz => ?_
      simp at hz
      rcases hz with rfl | rfl | rfl
      · exact .str _ _
      · exact .str _ _
      · exact .int _ _
theorem sv_code {ls : List (List Nat)} (ho : OKL ls) (hl : (flat ls).length + 2 ≤ SZ) : Sv 4 (.tup (ls.map rLine)) := by
  have hl' : (flat ls).length + 2 ≤ 16777216 := hl
  refine .tup _ _ (show (ls.map rLine).length ≤ 16777216 by have := len_flat ls; simp; omega) fun x hx => ?_
  obtain ⟨l, hm, rfl⟩ := List.mem_map.mp hx
  exact sv_line (by have := mem_flat hm; show l.length + 2 ≤ 16777216; omega) (ho l hm).1
end G
set_option Elab.async false
set_option linter.all false
set_option maxRecDepth 100000
set_option maxHeartbeats 4000000
/-! The plain law of k35, part 10: the tape. -/
namespace G
open PySem L2 DL
def tpe (cs : List Int) (a l se sa : Int) : Cell := [(0, .lst (cs.map D.int)), (1, .int a), (2, .int l), (3, .int se), (4, .int sa)]
def TapeOk (tp : Cell) : Prop := ∃ cs a l se sa, tp = tpe cs a l se sa ∧ (∀ c ∈ cs, 0 ≤ c) ∧ 0 ≤ a ∧ a ≤ (cs.length : Nat) ∧ 0 ≤ l
theorem x_dset {P : Par} {ρ : DL.Env} {s : Ss} {o e : E} {k c : Nat} {d : D} {cl : Cell} (h : ev P e (vis ρ) s = some (d, s)) (ho : ev P o (vis ρ) s = some (.loc c, s)) (hc : s[c]? = some cl) (hp : pur d = true) (hk : chas cl k = true) :
    DL.exec P (.dset o k e) ρ s = some (.nx ρ (s.set c (cput cl k d))) := by
  simp only [DL.exec, h, ho, bnd, hc, okc_of (rfl : s.length = s.length), hp, hk, Bool.and_self, if_true]
theorem k_pkc {P : Par} {e : E} {ρ : DL.Env} {s s' : Ss} {d : D} (h : ev P e (vis ρ) s = some (d, s')) (hp : pur d = true) (ho : okc ρ s s' = true) : keep P .pk e ρ s = some (.frz d, s') := by
  show bnd (ev P e (vis ρ) s) _ = _
  rw [h]
  show (if pur d && okc ρ s s' then _ else _) = _
  rw [hp, ho]; rfl
theorem e_take {n : Nat} {tp : Cell} {m : Int} (hm : 0 < m) (hm2 : m < 1073741824) (T : TapeOk tp) : ∃ d tp', Φ (n + 1) 8 [.loc 0, .int m] [tp] = some (.int d, [tp']) ∧ TapeOk tp' ∧ 0 ≤ d ∧ d < m := by
  -- the second half, once the tape may have been moved on
  have half : ∀ (cs : List Int) (a l se sa : Int), (∀ c ∈ cs, 0 ≤ c) → 0 ≤ a → a ≤ (cs.length : Nat) → 0 ≤ l → ∃ d tp', exec (par (Φ n)) (.seq (.ite (.cmp .gt (.dget (.var 0) 2) (.int 0)) (.seq (.asg 2 .pk (.bin .mod (.bi .int (.dget (.var 0) 2)) (.var 1))) (.seq (.dset (.var 0) 2 (.bin .fdiv (.dget (.var 0) 2) (.var 1))) (.ret .pk (.var 2)))) (.skip)) (.seq (.dset (.var 0) 4 (.bin .add (.dget (.var 0) 4) (.int 1))) (.seq (.asg 3 .pk (.bin .mod (.bi .int (.bin .add (.bin .mul (.dget (.var 0) 3) (.int 48271)) (.bin .mul (.dget (.var 0) 4) (.int 69621)))) (.int 2147483647))) (.seq (.asg 3 .pk (.bin .mod (.bi .int (.bin .add (.bin .add (.bin .mul (.var 3) (.var 3)) (.bin .mul (.dget (.var 0) 4) (.int 40692))) (.int 12345))) (.int 2147483399))) (.ret .pk (.bin .mod (.bi .int (.var 3)) (.var 1))))))) [.frz (.loc 0), .frz (.int m), .nil, .nil] [tpe cs a l se sa] = some (.rt false (.int d) [tp']) ∧ TapeOk tp' ∧ 0 ≤ d ∧ d < m := by
    intro cs a l se sa hcs ha1 ha2 hl
    have c1 : ev (par (Φ n)) (.cmp .gt (.dget (.var 0) 2) (.int 0)) (vis [.frz (.loc 0), .frz (.int m), .nil, .nil]) [tpe cs a l se sa] = some (.bl (decide (0 < l)), [tpe cs a l se sa]) := e_cmp (x := .int l) (y := .int 0) (by rfl) (by rfl) (by rfl)
    by_cases h0 : 0 < l
    · rw [decide_eq_true h0] at c1
      refine ⟨l % m, tpe cs a (l / m) se sa, x_seqR (x_iteB (k := true) c1 rfl ?_), ⟨cs, a, l / m, se, sa, rfl, hcs, ha1, ha2, Int.ediv_nonneg hl (by omega)⟩, Int.emod_nonneg _ (by omega), Int.emod_lt_of_pos _ hm⟩
      refine x_seq (x_pk (d := .int (l % m)) (e_bin (x := .int l) (y := .int m) (e_bi (x := .int l) (by rfl) (by rfl)) (by rfl) ?_) (by rfl) (by rfl) (by simp)) ?_
      · show (if 0 < m then some (D.int (l % m)) else none) = _
        rw [if_pos hm]
      · refine x_seq (x_dset (c := 0) (d := .int (l / m)) (e_bin (x := .int l) (y := .int m) (by rfl) (by rfl) ?_) (by rfl) (by rfl) (by rfl) (by rfl)) ?_
        · show (if 0 < m ∧ m < 1073741824 then some (D.int (l / m)) else none) = _
          rw [if_pos ⟨hm, hm2⟩]
        · exact x_ret (by rfl) (by rfl) (by rfl)
    · rw [decide_eq_false h0] at c1
      have h1 : ∀ x : Int, 0 ≤ x % 2147483647 ∧ x % 2147483647 < 2147483647 := fun x => ⟨Int.emod_nonneg _ (by omega), Int.emod_lt_of_pos _ (by omega)⟩
      refine ⟨((se * 48271 + (sa + 1) * 69621) % 2147483647 * ((se * 48271 + (sa + 1) * 69621) % 2147483647) + (sa + 1) * 40692 + 12345) % 2147483399 % m, tpe cs a l se (sa + 1), x_seq (x_iteB (k := false) c1 rfl (by rfl)) (x_seq (x_dset (c := 0) (d := .int (sa + 1)) (by rfl) (by rfl) (by rfl) (by rfl) (by rfl)) ?_), ⟨cs, a, l, se, sa + 1, rfl, hcs, ha1, ha2, hl⟩, Int.emod_nonneg _ (by omega), Int.emod_lt_of_pos _ hm⟩
      have mul : ∀ {x y : E} {i j : Int} {ρ : Vw} {s : Ss}, ev (par (Φ n)) x ρ s = some (.int i, s) → ev (par (Φ n)) y ρ s = some (.int j, s) → (-(2 ^ 64) < j ∧ j < 2 ^ 64) → ev (par (Φ n)) (.bin .mul x y) ρ s = some (.int (i * j), s) := fun {x y i j ρ s} hx hy hj => e_bin hx hy (by
        show (if (-(2 ^ 64) < i ∧ i < 2 ^ 64) ∨ (-(2 ^ 64) < j ∧ j < 2 ^ 64) then some (D.int (i * j)) else none) = _
        rw [if_pos (Or.inr hj)])
      have md : ∀ {x : E} {i : Int} (j : Int) {ρ : Vw} {s : Ss}, ev (par (Φ n)) x ρ s = some (.int i, s) → 0 < j → ev (par (Φ n)) (.bin .mod (.bi .int x) (.int j)) ρ s = some (.int (i % j), s) := fun {x i} j {ρ s} hx hj => e_bin (e_bi hx (by rfl)) (by rfl) (by
        show (if 0 < j then some (D.int (i % j)) else none) = _
        rw [if_pos hj])
      refine x_seq (x_pk (d := .int ((se * 48271 + (sa + 1) * 69621) % 2147483647)) (md 2147483647 (e_bin (mul (i := se) (j := 48271) (by rfl) (by rfl) (by omega)) (mul (i := sa + 1) (j := 69621) (by rfl) (by rfl) (by omega)) (by rfl)) (by omega)) (by rfl) (by rfl) (by simp)) ?_
      have hx := h1 (se * 48271 + (sa + 1) * 69621)
      generalize (se * 48271 + (sa + 1) * 69621) % 2147483647 = mx at hx ⊢
      refine x_seq (x_pk (d := .int ((mx * mx + (sa + 1) * 40692 + 12345) % 2147483399)) (md 2147483399 (e_bin (e_bin (mul (i := mx) (j := mx) (by rfl) (by rfl) (by omega)) (mul (i := sa + 1) (j := 40692) (by rfl) (by rfl) (by omega)) (by rfl)) (by rfl) (by rfl)) (by omega)) (by rfl) (by rfl) (by simp)) ?_
      refine x_ret (d := .int (_ % m)) (e_bin (e_bi (x := .int ((mx * mx + (sa + 1) * 40692 + 12345) % 2147483399)) (by rfl) (by rfl)) (y := .int m) (by rfl) ?_) (by rfl) (by rfl)
      show (if 0 < m then some (D.int (_ % m)) else none) = _
      rw [if_pos hm]
  obtain ⟨cs, a, l, se, sa, rfl, hcs, ha1, ha2, hl⟩ := T
  have out : ∀ d tp', exec (par (Φ n)) b8 [.frz (.loc 0), .frz (.int m), .nil, .nil] [tpe cs a l se sa] = some (.rt false (.int d) [tp']) → Φ (n + 1) 8 [.loc 0, .int m] [tpe cs a l se sa] = some (.int d, [tp']) := fun d tp' h => by
    show runF (par (Φ n)) f8 [.loc 0, .int m] [tpe cs a l se sa] = _
    exact run_rt rfl rfl h
  have c1 : ev (par (Φ n)) (.cmp .eq (.dget (.var 0) 2) (.int 0)) (vis [.frz (.loc 0), .frz (.int m), .nil, .nil]) [tpe cs a l se sa] = some (.bl (decide (l = 0)), [tpe cs a l se sa]) := e_cmp (x := .int l) (y := .int 0) (by rfl) (by rfl) (by rfl)
  have c2 : ev (par (Φ n)) (.cmp .lt (.dget (.var 0) 1) (.bi .len (.dget (.var 0) 0))) (vis [.frz (.loc 0), .frz (.int m), .nil, .nil]) [tpe cs a l se sa] = some (.bl (decide (a < (cs.length : Nat))), [tpe cs a l se sa]) := by
    refine e_cmp (x := .int a) (y := .int (cs.length : Nat)) (by rfl) (e_bi (x := .lst (cs.map D.int)) (by rfl) (by simp [dbi])) (by rfl)
  by_cases h0 : l = 0
  case neg =>
    rw [decide_eq_false h0] at c1
    obtain ⟨d, tp', e, T', r⟩ := half cs a l se sa hcs ha1 ha2 hl
    exact ⟨d, tp', out d tp' (x_seq (x_iteB (k := false) (e_and (k := false) c1 (by rfl) (by rfl)) rfl (by rfl)) e), T', r⟩
  rw [decide_eq_true h0] at c1
  by_cases h1 : a < (cs.length : Nat)
  case neg =>
    rw [decide_eq_false h1] at c2
    obtain ⟨d, tp', e, T', r⟩ := half cs a l se sa hcs ha1 ha2 hl
    exact ⟨d, tp', out d tp' (x_seq (x_iteB (k := false) (e_and (k := true) c1 (by rfl) c2) rfl (by rfl)) e), T', r⟩
  rw [decide_eq_true h1] at c2
  obtain ⟨i, rfl⟩ := Int.eq_ofNat_of_zero_le ha1
  have hi : i < cs.length := by omega
  obtain ⟨d, tp', e, T', r⟩ := half cs ((i : Int) + 1) cs[i] se sa hcs (by omega) (by omega) (hcs _ (List.getElem_mem hi))
  refine ⟨d, tp', out d tp' (x_seq (x_iteB (k := true) (e_and (k := true) c1 (by rfl) c2) rfl ?_) e), T', r⟩
  refine x_seq (x_dset (c := 0) (d := .int cs[i]) (e_idx (x := .lst (cs.map D.int)) (y := .int (i : Int)) (by rfl) (by rfl) ?_) (by rfl) (by rfl) (by rfl) (by rfl)) ?_
  · show at? (cs.map D.int) (i : Int) = _
    rw [at_nat rfl (by simpa using hi)]
    simp
  · exact x_dset (c := 0) (d := .int ((i : Int) + 1)) (cl := tpe cs (i : Int) cs[i] se sa) (by rfl) (by rfl) (by rfl) (by rfl) (by rfl)
theorem abs_comp {F : Nat → Fn1} {ns : List Int} (hl : ns.length ≤ 63) {s : Ss} : ev (par F) (.comp .lst (.var 0) (.nm 1) [1] (.nop) (.bi .abs (.bi .int (.var 1)))) [some (.lsk (ns.map .int)), none, none, none] s = some (.lst ((ns.map fun i => if i < 0 then -i else i).map D.int), s) := by
  have key := compF_map (step := cstep (par F) (.nm 1) [1] .nop (.bi .abs (.bi .int (.var 1))) [some (.lsk (ns.map .int)), none, none, none]) (s := s) (g := fun x => match x with | .int i => .int (if i < 0 then -i else i) | _ => .non) (xs := ns.map D.int) (by
    intro x hx
    obtain ⟨i, _, rfl⟩ := List.mem_map.mp hx
    exact cstep_nop (ρ' := [some (.lsk (ns.map .int)), some (.int i), none, none]) (by rfl) (e_bi (x := .int i) (e_bi (x := .int i) (by rfl) (by rfl)) (by rfl)))
  have := ev_comp (P := par F) (d := .lsk (ns.map .int)) (k := .lst) (src := .var 0) (s := s) (s' := s) (by rfl) rfl (show (ns.map D.int).length ≤ 16777216 by simp; omega) (by simp [tgIn]) key
  rw [this]
  congr 2
  rw [List.map_map, List.map_map]
  rfl
theorem seed_loop {F : Nat → Fn1} {a0 a2 : DL.Slot} {s : Ss} : ∀ (cs : List Int) (x1 : DL.Slot) (se : Int), ∃ y1 se', (x1.isOwn = false → y1.isOwn = false) ∧ forF (fun x ρ s => (tgS (.nm 1) x ρ).bind fun ρ' => exec (par F) (.asg 3 .pk (.bin .mod (.bi .int (.bin .add (.bin .mul (.var 3) (.int 31)) (.var 1))) (.int 2147483647))) ρ' s) (cs.map D.int) [a0, x1, a2, .frz (.int se)] s = some (.nx [a0, y1, a2, .frz (.int se')] s)
  | [], x1, se => ⟨x1, se, id, rfl⟩
  | c :: cs, x1, se => by
    obtain ⟨y1, se', ow, e⟩ := seed_loop (F := F) (a0 := a0) (a2 := a2) (s := s) cs (.frz (.int c)) ((se * 31 + c) % 2147483647)
    refine ⟨y1, se', fun _ => ow rfl, (for_nx (ρ' := [a0, .frz (.int c), a2, .frz (.int ((se * 31 + c) % 2147483647))]) (s' := s) ?_).trans e⟩
    show exec (par F) _ [a0, .frz (.int c), a2, .frz (.int se)] s = _
    refine x_pk (d := .int ((se * 31 + c) % 2147483647)) (e_bin (x := .int (se * 31 + c)) (y := .int 2147483647) (e_bi (x := .int (se * 31 + c)) (e_bin (x := .int (se * 31)) (y := .int c) (e_bin (x := .int se) (y := .int 31) (by rfl) (by rfl) ?_) (by rfl) (by rfl)) (by rfl)) (by rfl) ?_) (by rfl) (by rfl) (by simp)
    · show (if (-(2 ^ 64) < se ∧ se < 2 ^ 64) ∨ (-(2 ^ 64) < (31 : Int) ∧ (31 : Int) < 2 ^ 64) then some (D.int (se * 31)) else none) = _
      rw [if_pos (Or.inr ⟨by omega, by omega⟩)]
    · show (if (0 : Int) < 2147483647 then some (D.int ((se * 31 + c) % 2147483647)) else none) = _
      rw [if_pos (by omega)]
theorem e_tape {n : Nat} {ns : List Int} (hl : ns.length ≤ 63) : ∃ tp, Φ (n + 1) 7 [.lsk (ns.map .int)] [] = some (.loc 0, [tp]) ∧ TapeOk tp := by
  obtain ⟨y1, se, ow, e⟩ := seed_loop (F := Φ n) (a0 := .frz (.lsk (ns.map .int))) (a2 := .frz (.lst ((ns.map fun i => if i < 0 then -i else i).map D.int))) (s := []) (ns.map fun i => if i < 0 then -i else i) .nil 7
  refine ⟨tpe (ns.map fun i => if i < 0 then -i else i) 0 0 se 0, ?_, _, _, _, _, _, rfl, ?_, by omega, by omega, by omega⟩
  · show runF (par (Φ n)) f7 [.lsk (ns.map .int)] [] = _
    refine run_rt rfl rfl ?_
    show exec (par (Φ n)) b7 [.frz (.lsk (ns.map .int)), .nil, .nil, .nil] [] = _
    refine x_seq (x_st (abs_comp hl) (by rfl) (by simp)) (x_seq (x_pk (d := .int 7) (by rfl) (by rfl) (by rfl) (by simp)) (x_seq (x_for (k := .lst) (d := .lst ((ns.map fun i => if i < 0 then -i else i).map D.int)) (by rfl) (by rfl) rfl e) ?_))
    have ey := ow rfl
    have ec : ev (par (Φ n)) (.cel [0, 1, 2, 3, 4] (.cons (.var 2) (.cons (.int 0) (.cons (.int 0) (.cons (.var 3) (.cons (.int 0) (.nil))))))) (vis [.frz (.lsk (ns.map .int)), y1, .frz (.lst ((ns.map fun i => if i < 0 then -i else i).map D.int)), .frz (.int se)]) [] = some (.loc 0, [tpe (ns.map fun i => if i < 0 then -i else i) 0 0 se 0]) := by rfl
    have ek : keep (par (Φ n)) .pk (.cel [0, 1, 2, 3, 4] (.cons (.var 2) (.cons (.int 0) (.cons (.int 0) (.cons (.var 3) (.cons (.int 0) (.nil))))))) [.frz (.lsk (ns.map .int)), y1, .frz (.lst ((ns.map fun i => if i < 0 then -i else i).map D.int)), .frz (.int se)] [] = some (.frz (.loc 0), [tpe (ns.map fun i => if i < 0 then -i else i) 0 0 se 0]) := by
      refine k_pkc ec rfl ?_
      have ho : noOwn [.frz (.lsk (ns.map .int)), y1, .frz (.lst ((ns.map fun i => if i < 0 then -i else i).map D.int)), .frz (.int se)] = true := by
        show (true && (!y1.isOwn && (true && (true && true)))) = true
        rw [ey]; rfl
      unfold okc
      rw [ho]
      simp
    show (keep (par (Φ n)) .pk _ _ []).bind _ = _
    rw [ek]; rfl
  · intro c hc
    obtain ⟨i, _, rfl⟩ := List.mem_map.mp hc
    split <;> omega
end G
set_option Elab.async false
set_option linter.all false
set_option maxRecDepth 100000
set_option maxHeartbeats 4000000
/-! The plain law of k35, part 11: the instructions drawn (printed by m11gen.py). -/
namespace G
open PySem L2 DL
/-- an instruction that a line of its own gives -/
def Good (d : D) : Prop := ∃ l, 10 ∉ l ∧ l.length ≤ 100 ∧ rLine l = d ∧ d ≠ .non
def isNm (d : D) : Prop := d = .str [110] ∨ d = .str [109, 95, 49] ∨ d = .str [84, 111, 116, 97, 108]
def isGl (d : D) : Prop := d = .int 0 ∨ d = .int 7 ∨ d = .int 4294967295
theorem g_push {g : D} (h : isGl g) : Good (.tup [.str [112, 117, 115, 104], g]) := by
  rcases h with rfl | rfl | rfl
  · exact ⟨[112, 117, 115, 104, 32, 48], by decide, by decide, by kernel_rfl, fun z => nomatch z⟩
  · exact ⟨[112, 117, 115, 104, 32, 55], by decide, by decide, by kernel_rfl, fun z => nomatch z⟩
  · exact ⟨[112, 117, 115, 104, 32, 52, 50, 57, 52, 57, 54, 55, 50, 57, 53], by decide, by decide, by kernel_rfl, fun z => nomatch z⟩
theorem g_jump {g : D} (h : isGl g) : Good (.tup [.str [106, 117, 109, 112], g]) := by
  rcases h with rfl | rfl | rfl
  · exact ⟨[106, 117, 109, 112, 32, 48], by decide, by decide, by kernel_rfl, fun z => nomatch z⟩
  · exact ⟨[106, 117, 109, 112, 32, 55], by decide, by decide, by kernel_rfl, fun z => nomatch z⟩
  · exact ⟨[106, 117, 109, 112, 32, 52, 50, 57, 52, 57, 54, 55, 50, 57, 53], by decide, by decide, by kernel_rfl, fun z => nomatch z⟩
theorem g_zero {g : D} (h : isGl g) : Good (.tup [.str [122, 101, 114, 111], g]) := by
  rcases h with rfl | rfl | rfl
  · exact ⟨[122, 101, 114, 111, 32, 48], by decide, by decide, by kernel_rfl, fun z => nomatch z⟩
  · exact ⟨[122, 101, 114, 111, 32, 55], by decide, by decide, by kernel_rfl, fun z => nomatch z⟩
  · exact ⟨[122, 101, 114, 111, 32, 52, 50, 57, 52, 57, 54, 55, 50, 57, 53], by decide, by decide, by kernel_rfl, fun z => nomatch z⟩
theorem g_round {g : D} (h : isGl g) : Good (.tup [.str [114, 111, 117, 110, 100], .int 3, g]) := by
  rcases h with rfl | rfl | rfl
  · exact ⟨[114, 111, 117, 110, 100, 32, 51, 32, 48], by decide, by decide, by kernel_rfl, fun z => nomatch z⟩
  · exact ⟨[114, 111, 117, 110, 100, 32, 51, 32, 55], by decide, by decide, by kernel_rfl, fun z => nomatch z⟩
  · exact ⟨[114, 111, 117, 110, 100, 32, 51, 32, 52, 50, 57, 52, 57, 54, 55, 50, 57, 53], by decide, by decide, by kernel_rfl, fun z => nomatch z⟩
theorem g_load {v : D} (h : isNm v) : Good (.tup [.str [108, 111, 97, 100], v]) := by
  rcases h with rfl | rfl | rfl
  · exact ⟨[108, 111, 97, 100, 32, 110], by decide, by decide, by kernel_rfl, fun z => nomatch z⟩
  · exact ⟨[108, 111, 97, 100, 32, 109, 95, 49], by decide, by decide, by kernel_rfl, fun z => nomatch z⟩
  · exact ⟨[108, 111, 97, 100, 32, 84, 111, 116, 97, 108], by decide, by decide, by kernel_rfl, fun z => nomatch z⟩
theorem g_store {v : D} (h : isNm v) : Good (.tup [.str [115, 116, 111, 114, 101], v]) := by
  rcases h with rfl | rfl | rfl
  · exact ⟨[115, 116, 111, 114, 101, 32, 110], by decide, by decide, by kernel_rfl, fun z => nomatch z⟩
  · exact ⟨[115, 116, 111, 114, 101, 32, 109, 95, 49], by decide, by decide, by kernel_rfl, fun z => nomatch z⟩
  · exact ⟨[115, 116, 111, 114, 101, 32, 84, 111, 116, 97, 108], by decide, by decide, by kernel_rfl, fun z => nomatch z⟩
theorem g_input {v : D} (h : isNm v) : Good (.tup [.str [105, 110, 112, 117, 116], v]) := by
  rcases h with rfl | rfl | rfl
  · exact ⟨[105, 110, 112, 117, 116, 32, 110], by decide, by decide, by kernel_rfl, fun z => nomatch z⟩
  · exact ⟨[105, 110, 112, 117, 116, 32, 109, 95, 49], by decide, by decide, by kernel_rfl, fun z => nomatch z⟩
  · exact ⟨[105, 110, 112, 117, 116, 32, 84, 111, 116, 97, 108], by decide, by decide, by kernel_rfl, fun z => nomatch z⟩
theorem g_emit {v : D} (h : isNm v) : Good (.tup [.str [101, 109, 105, 116], .str [98], v]) := by
  rcases h with rfl | rfl | rfl
  · exact ⟨[101, 109, 105, 116, 32, 98, 32, 110], by decide, by decide, by kernel_rfl, fun z => nomatch z⟩
  · exact ⟨[101, 109, 105, 116, 32, 98, 32, 109, 95, 49], by decide, by decide, by kernel_rfl, fun z => nomatch z⟩
  · exact ⟨[101, 109, 105, 116, 32, 98, 32, 84, 111, 116, 97, 108], by decide, by decide, by kernel_rfl, fun z => nomatch z⟩
theorem g_add : Good (.tup [.str [97, 100, 100]]) := ⟨[97, 100, 100], by decide, by decide, by kernel_rfl, fun z => nomatch z⟩
theorem g_sub : Good (.tup [.str [115, 117, 98]]) := ⟨[115, 117, 98], by decide, by decide, by kernel_rfl, fun z => nomatch z⟩
theorem g_mul : Good (.tup [.str [109, 117, 108]]) := ⟨[109, 117, 108], by decide, by decide, by kernel_rfl, fun z => nomatch z⟩
theorem g_less : Good (.tup [.str [108, 101, 115, 115]]) := ⟨[108, 101, 115, 115], by decide, by decide, by kernel_rfl, fun z => nomatch z⟩
theorem g_same : Good (.tup [.str [115, 97, 109, 101]]) := ⟨[115, 97, 109, 101], by decide, by decide, by kernel_rfl, fun z => nomatch z⟩
theorem g_stop : Good (.tup [.str [115, 116, 111, 112]]) := ⟨[115, 116, 111, 112], by decide, by decide, by kernel_rfl, fun z => nomatch z⟩
theorem g_yes : Good (.tup [.str [121, 101, 115], .int 3]) := ⟨[121, 101, 115, 32, 51], by decide, by decide, by kernel_rfl, fun z => nomatch z⟩
theorem g_no : Good (.tup [.str [110, 111], .int 12]) := ⟨[110, 111, 32, 49, 50], by decide, by decide, by kernel_rfl, fun z => nomatch z⟩
theorem g_test {v : D} (h : v = .str [121, 101, 115] ∨ v = .str [110, 111]) : Good (.tup [.str [116, 101, 115, 116], v]) := by
  rcases h with rfl | rfl
  · exact ⟨[116, 101, 115, 116, 32, 121, 101, 115], by decide, by decide, by kernel_rfl, fun z => nomatch z⟩
  · exact ⟨[116, 101, 115, 116, 32, 110, 111], by decide, by decide, by kernel_rfl, fun z => nomatch z⟩
theorem g_wait1 {v g : D} (h : isNm v) (h2 : isGl g) : Good (.tup [.str [119, 97, 105, 116], .str [98], .tup [.tup [.str [103, 111], v, g]]]) := by
  rcases h with rfl | rfl | rfl <;> rcases h2 with rfl | rfl | rfl
  · exact ⟨[119, 97, 105, 116, 32, 98, 32, 103, 111, 32, 110, 32, 48], by decide, by decide, by kernel_rfl, fun z => nomatch z⟩
  · exact ⟨[119, 97, 105, 116, 32, 98, 32, 103, 111, 32, 110, 32, 55], by decide, by decide, by kernel_rfl, fun z => nomatch z⟩
  · exact ⟨[119, 97, 105, 116, 32, 98, 32, 103, 111, 32, 110, 32, 52, 50, 57, 52, 57, 54, 55, 50, 57, 53], by decide, by decide, by kernel_rfl, fun z => nomatch z⟩
  · exact ⟨[119, 97, 105, 116, 32, 98, 32, 103, 111, 32, 109, 95, 49, 32, 48], by decide, by decide, by kernel_rfl, fun z => nomatch z⟩
  · exact ⟨[119, 97, 105, 116, 32, 98, 32, 103, 111, 32, 109, 95, 49, 32, 55], by decide, by decide, by kernel_rfl, fun z => nomatch z⟩
  · exact ⟨[119, 97, 105, 116, 32, 98, 32, 103, 111, 32, 109, 95, 49, 32, 52, 50, 57, 52, 57, 54, 55, 50, 57, 53], by decide, by decide, by kernel_rfl, fun z => nomatch z⟩
  · exact ⟨[119, 97, 105, 116, 32, 98, 32, 103, 111, 32, 84, 111, 116, 97, 108, 32, 48], by decide, by decide, by kernel_rfl, fun z => nomatch z⟩
  · exact ⟨[119, 97, 105, 116, 32, 98, 32, 103, 111, 32, 84, 111, 116, 97, 108, 32, 55], by decide, by decide, by kernel_rfl, fun z => nomatch z⟩
  · exact ⟨[119, 97, 105, 116, 32, 98, 32, 103, 111, 32, 84, 111, 116, 97, 108, 32, 52, 50, 57, 52, 57, 54, 55, 50, 57, 53], by decide, by decide, by kernel_rfl, fun z => nomatch z⟩
theorem g_wait2 {v g : D} (h : isNm v) (h2 : isGl g) : Good (.tup [.str [119, 97, 105, 116], .str [98], .tup [.tup [.str [103, 111], v, g], .tup [.str [110, 111], v, g]]]) := by
  rcases h with rfl | rfl | rfl <;> rcases h2 with rfl | rfl | rfl
  · exact ⟨[119, 97, 105, 116, 32, 98, 32, 103, 111, 32, 110, 32, 48, 32, 110, 111, 32, 110, 32, 48], by decide, by decide, by kernel_rfl, fun z => nomatch z⟩
  · exact ⟨[119, 97, 105, 116, 32, 98, 32, 103, 111, 32, 110, 32, 55, 32, 110, 111, 32, 110, 32, 55], by decide, by decide, by kernel_rfl, fun z => nomatch z⟩
  · exact ⟨[119, 97, 105, 116, 32, 98, 32, 103, 111, 32, 110, 32, 52, 50, 57, 52, 57, 54, 55, 50, 57, 53, 32, 110, 111, 32, 110, 32, 52, 50, 57, 52, 57, 54, 55, 50, 57, 53], by decide, by decide, by kernel_rfl, fun z => nomatch z⟩
  · exact ⟨[119, 97, 105, 116, 32, 98, 32, 103, 111, 32, 109, 95, 49, 32, 48, 32, 110, 111, 32, 109, 95, 49, 32, 48], by decide, by decide, by kernel_rfl, fun z => nomatch z⟩
  · exact ⟨[119, 97, 105, 116, 32, 98, 32, 103, 111, 32, 109, 95, 49, 32, 55, 32, 110, 111, 32, 109, 95, 49, 32, 55], by decide, by decide, by kernel_rfl, fun z => nomatch z⟩
  · exact ⟨[119, 97, 105, 116, 32, 98, 32, 103, 111, 32, 109, 95, 49, 32, 52, 50, 57, 52, 57, 54, 55, 50, 57, 53, 32, 110, 111, 32, 109, 95, 49, 32, 52, 50, 57, 52, 57, 54, 55, 50, 57, 53], by decide, by decide, by kernel_rfl, fun z => nomatch z⟩
  · exact ⟨[119, 97, 105, 116, 32, 98, 32, 103, 111, 32, 84, 111, 116, 97, 108, 32, 48, 32, 110, 111, 32, 84, 111, 116, 97, 108, 32, 48], by decide, by decide, by kernel_rfl, fun z => nomatch z⟩
  · exact ⟨[119, 97, 105, 116, 32, 98, 32, 103, 111, 32, 84, 111, 116, 97, 108, 32, 55, 32, 110, 111, 32, 84, 111, 116, 97, 108, 32, 55], by decide, by decide, by kernel_rfl, fun z => nomatch z⟩
  · exact ⟨[119, 97, 105, 116, 32, 98, 32, 103, 111, 32, 84, 111, 116, 97, 108, 32, 52, 50, 57, 52, 57, 54, 55, 50, 57, 53, 32, 110, 111, 32, 84, 111, 116, 97, 108, 32, 52, 50, 57, 52, 57, 54, 55, 50, 57, 53], by decide, by decide, by kernel_rfl, fun z => nomatch z⟩
theorem g_wait3 {v g : D} (h : isNm v) (h2 : isGl g) : Good (.tup [.str [119, 97, 105, 116], .str [98], .tup [.tup [.str [103, 111], v, g], .tup [.str [110, 111], v, g], .tup [.str [120, 57], v, g]]]) := by
  rcases h with rfl | rfl | rfl <;> rcases h2 with rfl | rfl | rfl
  · exact ⟨[119, 97, 105, 116, 32, 98, 32, 103, 111, 32, 110, 32, 48, 32, 110, 111, 32, 110, 32, 48, 32, 120, 57, 32, 110, 32, 48], by decide, by decide, by kernel_rfl, fun z => nomatch z⟩
  · exact ⟨[119, 97, 105, 116, 32, 98, 32, 103, 111, 32, 110, 32, 55, 32, 110, 111, 32, 110, 32, 55, 32, 120, 57, 32, 110, 32, 55], by decide, by decide, by kernel_rfl, fun z => nomatch z⟩
  · exact ⟨[119, 97, 105, 116, 32, 98, 32, 103, 111, 32, 110, 32, 52, 50, 57, 52, 57, 54, 55, 50, 57, 53, 32, 110, 111, 32, 110, 32, 52, 50, 57, 52, 57, 54, 55, 50, 57, 53, 32, 120, 57, 32, 110, 32, 52, 50, 57, 52, 57, 54, 55, 50, 57, 53], by decide, by decide, by kernel_rfl, fun z => nomatch z⟩
  · exact ⟨[119, 97, 105, 116, 32, 98, 32, 103, 111, 32, 109, 95, 49, 32, 48, 32, 110, 111, 32, 109, 95, 49, 32, 48, 32, 120, 57, 32, 109, 95, 49, 32, 48], by decide, by decide, by kernel_rfl, fun z => nomatch z⟩
  · exact ⟨[119, 97, 105, 116, 32, 98, 32, 103, 111, 32, 109, 95, 49, 32, 55, 32, 110, 111, 32, 109, 95, 49, 32, 55, 32, 120, 57, 32, 109, 95, 49, 32, 55], by decide, by decide, by kernel_rfl, fun z => nomatch z⟩
  · exact ⟨[119, 97, 105, 116, 32, 98, 32, 103, 111, 32, 109, 95, 49, 32, 52, 50, 57, 52, 57, 54, 55, 50, 57, 53, 32, 110, 111, 32, 109, 95, 49, 32, 52, 50, 57, 52, 57, 54, 55, 50, 57, 53, 32, 120, 57, 32, 109, 95, 49, 32, 52, 50, 57, 52, 57, 54, 55, 50, 57, 53], by decide, by decide, by kernel_rfl, fun z => nomatch z⟩
  · exact ⟨[119, 97, 105, 116, 32, 98, 32, 103, 111, 32, 84, 111, 116, 97, 108, 32, 48, 32, 110, 111, 32, 84, 111, 116, 97, 108, 32, 48, 32, 120, 57, 32, 84, 111, 116, 97, 108, 32, 48], by decide, by decide, by kernel_rfl, fun z => nomatch z⟩
  · exact ⟨[119, 97, 105, 116, 32, 98, 32, 103, 111, 32, 84, 111, 116, 97, 108, 32, 55, 32, 110, 111, 32, 84, 111, 116, 97, 108, 32, 55, 32, 120, 57, 32, 84, 111, 116, 97, 108, 32, 55], by decide, by decide, by kernel_rfl, fun z => nomatch z⟩
  · exact ⟨[119, 97, 105, 116, 32, 98, 32, 103, 111, 32, 84, 111, 116, 97, 108, 32, 52, 50, 57, 52, 57, 54, 55, 50, 57, 53, 32, 110, 111, 32, 84, 111, 116, 97, 108, 32, 52, 50, 57, 52, 57, 54, 55, 50, 57, 53, 32, 120, 57, 32, 84, 111, 116, 97, 108, 32, 52, 50, 57, 52, 57, 54, 55, 50, 57, 53], by decide, by decide, by kernel_rfl, fun z => nomatch z⟩
end G
set_option Elab.async false
set_option linter.all false
set_option maxRecDepth 100000
set_option maxHeartbeats 4000000
/-! The plain law of k35, part 12: an instruction drawn, a text bent (printed by m12gen.py). -/
namespace G
open PySem L2 DL
theorem good_pur {d : D} (h : Good d) : pur d = true := by
  obtain ⟨l, h1, h2, rfl, h4⟩ := h
  exact (back (n := 0) (s := []) (show l.length + 2 ≤ 16777216 by omega) h4).1
theorem tk {n : Nat} {tp : Cell} (T : TapeOk tp) (m : Int) (hm : 0 < m) (hm2 : m < 1073741824) : ∃ d tp', (∀ ρ : Vw, ρ[0]? = some (some (.loc 0)) → ∀ e, ev (par (Φ (n + 1))) e ρ [tp] = some (.int m, [tp]) → ev (par (Φ (n + 1))) (.call 8 (.cons (.var 0) (.cons e (.nil)))) ρ [tp] = some (.int d, [tp'])) ∧ TapeOk tp' ∧ 0 ≤ d ∧ d < m := by
  obtain ⟨d, tp', e, T', r⟩ := e_take (n := n) hm hm2 T
  exact ⟨d, tp', fun ρ h x hx => e_call (e_cons (e_var h) (e_cons1 hx)) e, T', r⟩
theorem e_ins {n : Nat} {tp : Cell} (T : TapeOk tp) : ∃ d tp', Φ (n + 2) 12 [.loc 0] [tp] = some (d, [tp']) ∧ TapeOk tp' ∧ Good d := by
  obtain ⟨d1, t1, e1, T1, p1, q1⟩ := tk (n := n) T 3 (by omega) (by omega)
  obtain ⟨v, hv, i1⟩ : ∃ v, isNm v ∧ dix (.lst [.str [110], .str [109, 95, 49], .str [84, 111, 116, 97, 108]]) (.int d1) = some v := by
    rcases (by omega : d1 = 0 ∨ d1 = 1 ∨ d1 = 2) with rfl | rfl | rfl
    · exact ⟨_, Or.inl rfl, rfl⟩
    · exact ⟨_, Or.inr (Or.inl rfl), rfl⟩
    · exact ⟨_, Or.inr (Or.inr rfl), rfl⟩
  obtain ⟨d2, t2, e2, T2, p2, q2⟩ := tk (n := n) T1 3 (by omega) (by omega)
  obtain ⟨g, hg, i2⟩ : ∃ g, isGl g ∧ dix (.lst [.int 0, .int 7, .int 4294967295]) (.int d2) = some g := by
    rcases (by omega : d2 = 0 ∨ d2 = 1 ∨ d2 = 2) with rfl | rfl | rfl
    · exact ⟨_, Or.inl rfl, rfl⟩
    · exact ⟨_, Or.inr (Or.inl rfl), rfl⟩
    · exact ⟨_, Or.inr (Or.inr rfl), rfl⟩
  have pv : pur v = true := by rcases hv with rfl | rfl | rfl <;> rfl
  have pg : pur g = true := by rcases hg with rfl | rfl | rfl <;> rfl
  obtain ⟨d3, t3, e3, T3, p3, q3⟩ := tk (n := n) T2 3 (by omega) (by omega)
  obtain ⟨d4, t4, e4, T4, p4, q4⟩ := tk (n := n) T3 2 (by omega) (by omega)
  obtain ⟨t, ht, i4⟩ : ∃ t, (t = .str [121, 101, 115] ∨ t = .str [110, 111]) ∧ dix (.lst [.str [121, 101, 115], .str [110, 111]]) (.int d4) = some t := by
    rcases (by omega : d4 = 0 ∨ d4 = 1) with rfl | rfl
    · exact ⟨_, Or.inl rfl, rfl⟩
    · exact ⟨_, Or.inr rfl, rfl⟩
  obtain ⟨d5, t5, e5, T5, p5, q5⟩ := tk (n := n) T4 18 (by omega) (by omega)
  obtain ⟨ch, hch, ec⟩ : ∃ ch, Good (.tup [.str [119, 97, 105, 116], .str [98], ch]) ∧ ev (par (Φ (n + 1))) (.bi .tuple (.comp .rng1 (.cons (.bin .add (.int 1) (.call 8 (.cons (.var 0) (.cons (.int 3) (.nil))))) (.nil)) (.nm 5) [5] (.nop) (.tup (.cons (.idx (.lst (.cons (.str [103, 111]) (.cons (.str [110, 111]) (.cons (.str [120, 57]) (.nil))))) (.var 5)) (.cons (.var 1) (.cons (.var 2) (.nil))))))) [some (.loc 0), some v, some g, none, none, none] [t2] = some (ch, [t3]) := by
    have es : ev (par (Φ (n + 1))) (.cons (.bin .add (.int 1) (.call 8 (.cons (.var 0) (.cons (.int 3) (.nil))))) (.nil)) [some (.loc 0), some v, some g, none, none, none] [t2] = some (.tup [.int (1 + d3)], [t3]) := e_cons1 (e_bin (x := .int 1) (y := .int d3) (by rfl) (e3 _ (by rfl) _ (by rfl)) (by rfl))
    rcases (by omega : d3 = 0 ∨ d3 = 1 ∨ d3 = 2) with rfl | rfl | rfl
    · exact ⟨_, g_wait1 hv hg, e_bi (ev_comp (k := .rng1) es (xs := [.int 0]) (by rfl) (by show 1 ≤ SZ; decide) (by rfl) (o := ([.tup [.str [103, 111], v, g]], [t3])) (by rfl)) (by rfl)⟩
    · exact ⟨_, g_wait2 hv hg, e_bi (ev_comp (k := .rng1) es (xs := [.int 0, .int 1]) (by rfl) (by show 2 ≤ SZ; decide) (by rfl) (o := ([.tup [.str [103, 111], v, g], .tup [.str [110, 111], v, g]], [t3])) (by rfl)) (by rfl)⟩
    · exact ⟨_, g_wait3 hv hg, e_bi (ev_comp (k := .rng1) es (xs := [.int 0, .int 1, .int 2]) (by rfl) (by show 3 ≤ SZ; decide) (by rfl) (o := ([.tup [.str [103, 111], v, g], .tup [.str [110, 111], v, g], .tup [.str [120, 57], v, g]], [t3])) (by rfl)) (by rfl)⟩
  have pch : pur ch = true := by
    have h : (true && (true && (pur ch && true))) = true := good_pur hch
    simpa using h
  obtain ⟨d, hd, hG⟩ : ∃ d, dix (.lst [.tup [.str [112, 117, 115, 104], g], .tup [.str [108, 111, 97, 100], v], .tup [.str [115, 116, 111, 114, 101], v], .tup [.str [97, 100, 100]], .tup [.str [115, 117, 98]], .tup [.str [109, 117, 108]], .tup [.str [108, 101, 115, 115]], .tup [.str [115, 97, 109, 101]], .tup [.str [106, 117, 109, 112], g], .tup [.str [122, 101, 114, 111], g], .tup [.str [101, 109, 105, 116], .str [98], v], .tup [.str [119, 97, 105, 116], .str [98], ch], .tup [.str [105, 110, 112, 117, 116], v], .tup [.str [114, 111, 117, 110, 100], .int 3, g], .tup [.str [121, 101, 115], .int 3], .tup [.str [110, 111], .int 12], .tup [.str [116, 101, 115, 116], t], .tup [.str [115, 116, 111, 112]]]) (.int d5) = some d ∧ Good d := by
    rcases (by omega : d5 = 0 ∨ d5 = 1 ∨ d5 = 2 ∨ d5 = 3 ∨ d5 = 4 ∨ d5 = 5 ∨ d5 = 6 ∨ d5 = 7 ∨ d5 = 8 ∨ d5 = 9 ∨ d5 = 10 ∨ d5 = 11 ∨ d5 = 12 ∨ d5 = 13 ∨ d5 = 14 ∨ d5 = 15 ∨ d5 = 16 ∨ d5 = 17) with rfl | rfl | rfl | rfl | rfl | rfl | rfl | rfl | rfl | rfl | rfl | rfl | rfl | rfl | rfl | rfl | rfl | rfl
    · exact ⟨_, rfl, g_push hg⟩
    · exact ⟨_, rfl, g_load hv⟩
    · exact ⟨_, rfl, g_store hv⟩
    · exact ⟨_, rfl, g_add⟩
    · exact ⟨_, rfl, g_sub⟩
    · exact ⟨_, rfl, g_mul⟩
    · exact ⟨_, rfl, g_less⟩
    · exact ⟨_, rfl, g_same⟩
    · exact ⟨_, rfl, g_jump hg⟩
    · exact ⟨_, rfl, g_zero hg⟩
    · exact ⟨_, rfl, g_emit hv⟩
    · exact ⟨_, rfl, hch⟩
    · exact ⟨_, rfl, g_input hv⟩
    · exact ⟨_, rfl, g_round hg⟩
    · exact ⟨_, rfl, g_yes⟩
    · exact ⟨_, rfl, g_no⟩
    · exact ⟨_, rfl, g_test ht⟩
    · exact ⟨_, rfl, g_stop⟩
  refine ⟨d, t5, ?_, T5, hG⟩
  show runF (par (Φ (n + 1))) f12 [.loc 0] [tp] = _
  refine run_rt rfl rfl ?_
  show exec (par (Φ (n + 1))) b12 [.frz (.loc 0), .nil, .nil, .nil, .nil, .nil] [tp] = _
  refine x_seq (x_pk (d := v) (e_idx (x := .lst [.str [110], .str [109, 95, 49], .str [84, 111, 116, 97, 108]]) (y := .int d1) (by rfl) (e1 _ (by rfl) _ (by rfl)) i1) pv (by rfl) (by simp)) ?_
  refine x_seq (x_pk (d := g) (e_idx (x := .lst [.int 0, .int 7, .int 4294967295]) (y := .int d2) (by rfl) (e2 _ (by rfl) _ (by rfl)) i2) pg (by rfl) (by simp)) ?_
  refine x_seq (x_pk (d := ch) ec pch (by rfl) (by simp)) ?_
  refine x_seq (x_st (d := .lst [.tup [.str [112, 117, 115, 104], g], .tup [.str [108, 111, 97, 100], v], .tup [.str [115, 116, 111, 114, 101], v], .tup [.str [97, 100, 100]], .tup [.str [115, 117, 98]], .tup [.str [109, 117, 108]], .tup [.str [108, 101, 115, 115]], .tup [.str [115, 97, 109, 101]]]) (by rfl) (by rfl) (by simp)) ?_
  refine x_seq (x_st (d := .lst [.tup [.str [112, 117, 115, 104], g], .tup [.str [108, 111, 97, 100], v], .tup [.str [115, 116, 111, 114, 101], v], .tup [.str [97, 100, 100]], .tup [.str [115, 117, 98]], .tup [.str [109, 117, 108]], .tup [.str [108, 101, 115, 115]], .tup [.str [115, 97, 109, 101]], .tup [.str [106, 117, 109, 112], g], .tup [.str [122, 101, 114, 111], g], .tup [.str [101, 109, 105, 116], .str [98], v], .tup [.str [119, 97, 105, 116], .str [98], ch], .tup [.str [105, 110, 112, 117, 116], v]]) (by rfl) (by rfl) (by simp)) ?_
  refine x_seq (x_st (d := .lst [.tup [.str [112, 117, 115, 104], g], .tup [.str [108, 111, 97, 100], v], .tup [.str [115, 116, 111, 114, 101], v], .tup [.str [97, 100, 100]], .tup [.str [115, 117, 98]], .tup [.str [109, 117, 108]], .tup [.str [108, 101, 115, 115]], .tup [.str [115, 97, 109, 101]], .tup [.str [106, 117, 109, 112], g], .tup [.str [122, 101, 114, 111], g], .tup [.str [101, 109, 105, 116], .str [98], v], .tup [.str [119, 97, 105, 116], .str [98], ch], .tup [.str [105, 110, 112, 117, 116], v], .tup [.str [114, 111, 117, 110, 100], .int 3, g], .tup [.str [121, 101, 115], .int 3], .tup [.str [110, 111], .int 12], .tup [.str [116, 101, 115, 116], t], .tup [.str [115, 116, 111, 112]]]) (e_bin (x := .lst [.tup [.str [112, 117, 115, 104], g], .tup [.str [108, 111, 97, 100], v], .tup [.str [115, 116, 111, 114, 101], v], .tup [.str [97, 100, 100]], .tup [.str [115, 117, 98]], .tup [.str [109, 117, 108]], .tup [.str [108, 101, 115, 115]], .tup [.str [115, 97, 109, 101]], .tup [.str [106, 117, 109, 112], g], .tup [.str [122, 101, 114, 111], g], .tup [.str [101, 109, 105, 116], .str [98], v], .tup [.str [119, 97, 105, 116], .str [98], ch], .tup [.str [105, 110, 112, 117, 116], v]]) (y := .lst [.tup [.str [114, 111, 117, 110, 100], .int 3, g], .tup [.str [121, 101, 115], .int 3], .tup [.str [110, 111], .int 12], .tup [.str [116, 101, 115, 116], t], .tup [.str [115, 116, 111, 112]]]) (by rfl) (e_lst (e_cons (by rfl) (e_cons (by rfl) (e_cons (by rfl) (e_cons (e_tup (e_cons (by rfl) (e_cons1 (e_idx (x := .lst [.str [121, 101, 115], .str [110, 111]]) (y := .int d4) (by rfl) (e4 _ (by rfl) _ (by rfl)) i4))) (by show 2 ≤ SZ; decide)) (e_cons1 (by rfl)))))) (by show 5 ≤ SZ; decide)) (by rfl)) (by rfl) (by simp)) ?_
  exact x_ret (e_idx (x := .lst [.tup [.str [112, 117, 115, 104], g], .tup [.str [108, 111, 97, 100], v], .tup [.str [115, 116, 111, 114, 101], v], .tup [.str [97, 100, 100]], .tup [.str [115, 117, 98]], .tup [.str [109, 117, 108]], .tup [.str [108, 101, 115, 115]], .tup [.str [115, 97, 109, 101]], .tup [.str [106, 117, 109, 112], g], .tup [.str [122, 101, 114, 111], g], .tup [.str [101, 109, 105, 116], .str [98], v], .tup [.str [119, 97, 105, 116], .str [98], ch], .tup [.str [105, 110, 112, 117, 116], v], .tup [.str [114, 111, 117, 110, 100], .int 3, g], .tup [.str [121, 101, 115], .int 3], .tup [.str [110, 111], .int 12], .tup [.str [116, 101, 115, 116], t], .tup [.str [115, 116, 111, 112]]]) (y := .int d5) (by rfl) (e5 _ (by rfl) _ (by rfl)) hd) (good_pur hG) (by rfl)
theorem cut_len {α : Type} {xs : List α} {lo hi : Option Int} : (cut xs lo hi).length ≤ xs.length := by
  unfold cut
  simp
  omega
theorem e_bent {n : Nat} {tp : Cell} {X : List Nat} (T : TapeOk tp) (hX : X.length ≤ 2000) : ∃ B tp', Φ (n + 2) 14 [.loc 0, .str X] [tp] = some (.str B, [tp']) ∧ TapeOk tp' ∧ B.length ≤ 6000 := by
  have hS : X.length ≤ SZ := by show X.length ≤ 16777216; omega
  obtain ⟨d1, t1, e1, T1, p1, q1⟩ := tk (n := n) T ((X.length : Nat) + 1) (by omega) (by omega)
  obtain ⟨d2, t2, e2, T2, p2, q2⟩ := tk (n := n) T1 12 (by omega) (by omega)
  obtain ⟨m, hm, i2⟩ : ∃ m : List Nat, m.length ≤ 20 ∧ dix (.lst [.str [], .str [32], .str [10], .str [55], .str [48], .str [120], .str [103, 111, 32, 110, 111, 32, 49], .str [45], .str [52, 50, 57, 52, 57, 54, 55, 50, 57, 54], .str [112, 117, 115, 104, 32, 49, 10], .str [121, 101, 115], .str [95]]) (.int d2) = some (.str m) := by
    rcases (by omega : d2 = 0 ∨ d2 = 1 ∨ d2 = 2 ∨ d2 = 3 ∨ d2 = 4 ∨ d2 = 5 ∨ d2 = 6 ∨ d2 = 7 ∨ d2 = 8 ∨ d2 = 9 ∨ d2 = 10 ∨ d2 = 11) with rfl | rfl | rfl | rfl | rfl | rfl | rfl | rfl | rfl | rfl | rfl | rfl
    all_goals exact ⟨_, by decide, rfl⟩
  obtain ⟨d3, t3, e3, T3, p3, q3⟩ := tk (n := n) T2 6 (by omega) (by omega)
  obtain ⟨d4, t4, e4, T4, p4, q4⟩ := tk (n := n) T3 3 (by omega) (by omega)
  have el : ev (par (Φ (n + 1))) (.bin .add (.bi .len (.var 1)) (.int 1)) (vis [.frz (.loc 0), .frz (.str X), .nil, .nil]) [tp] = some (.int ((X.length : Nat) + 1), [tp]) :=
    e_bin (x := .int (X.length : Nat)) (y := .int 1) (e_bi (x := .str X) (by rfl) (by show (if X.length ≤ SZ then _ else none) = _; rw [if_pos hS])) (by rfl) (by rfl)
  have go : ∀ r, exec (par (Φ (n + 1))) (.seq (.ite (.cmp .eq (.call 8 (.cons (.var 0) (.cons (.int 6) (.nil)))) (.int 0)) (.ret .pk (.slc .str (.var 1) (.nop) (.int (-1)))) (.skip)) (.ret .pk (.bin .add (.bin .add (.slc .str (.var 1) (.nop) (.var 2)) (.var 3)) (.slc .str (.var 1) (.bin .add (.var 2) (.call 8 (.cons (.var 0) (.cons (.int 3) (.nil))))) (.nop))))) [.frz (.loc 0), .frz (.str X), .frz (.int d1), .frz (.str m)] [t2] = r → exec (par (Φ (n + 1))) b14 [.frz (.loc 0), .frz (.str X), .nil, .nil] [tp] = r := fun r h =>
    x_seq (x_pk (e1 _ (by rfl) _ el) (by rfl) (by rfl) (by simp)) (x_seq (x_pk (d := .str m) (e_idx (x := .lst [.str [], .str [32], .str [10], .str [55], .str [48], .str [120], .str [103, 111, 32, 110, 111, 32, 49], .str [45], .str [52, 50, 57, 52, 57, 54, 55, 50, 57, 54], .str [112, 117, 115, 104, 32, 49, 10], .str [121, 101, 115], .str [95]]) (y := .int d2) (by rfl) (e2 _ (by rfl) (.int 12) (by rfl)) i2) (by rfl) (by rfl) (by simp)) h)
  have ce : ev (par (Φ (n + 1))) (.cmp .eq (.call 8 (.cons (.var 0) (.cons (.int 6) (.nil)))) (.int 0)) (vis [.frz (.loc 0), .frz (.str X), .frz (.int d1), .frz (.str m)]) [t2] = some (.bl (decide (d3 = 0)), [t3]) := e_cmp (x := .int d3) (y := .int 0) (e3 _ (by rfl) _ (by rfl)) (by rfl) (by rfl)
  have sl : ∀ lo hi : Option Int, dsl .str (.str X) lo hi = some (.str (cut X lo hi)) := fun lo hi => by
    show (if X.length ≤ SZ then _ else none) = _
    rw [if_pos hS]
  have run : ∀ d s, exec (par (Φ (n + 1))) b14 [.frz (.loc 0), .frz (.str X), .nil, .nil] [tp] = some (.rt false d s) → Φ (n + 2) 14 [.loc 0, .str X] [tp] = some (d, s) := fun d s h => by
    show runF (par (Φ (n + 1))) f14 [.loc 0, .str X] [tp] = _
    exact run_rt rfl rfl h
  by_cases h3 : d3 = 0
  · rw [decide_eq_true h3] at ce
    have := cut_len (xs := X) (lo := none) (hi := some (-1))
    exact ⟨cut X none (some (-1)), t3, run _ _ (go _ (x_seqR (x_iteB (k := true) ce rfl (x_ret (e_slc (x := .str X) (l := .non) (h := .int (-1)) (by rfl) (by rfl) (by rfl) (L := none) (by rfl) (Hh := some (-1)) (by rfl) (sl _ _)) (by rfl) (by rfl))))), T3, by omega⟩
  · rw [decide_eq_false h3] at ce
    have c1 := cut_len (xs := X) (lo := none) (hi := some d1)
    have c2 := cut_len (xs := X) (lo := some (d1 + d4)) (hi := none)
    have r1 : ev (par (Φ (n + 1))) (.bin .add (.slc .str (.var 1) (.nop) (.var 2)) (.var 3)) (vis [.frz (.loc 0), .frz (.str X), .frz (.int d1), .frz (.str m)]) [t3] = some (.str (cut X none (some d1) ++ m), [t3]) :=
      e_bin (x := .str (cut X none (some d1))) (y := .str m) (e_slc (x := .str X) (l := .non) (h := .int d1) (by rfl) (by rfl) (by rfl) (L := none) (by rfl) (Hh := some d1) (by rfl) (sl _ _)) (by rfl) (by
        show (if (cut X none (some d1)).length + m.length ≤ SZ then _ else none) = _
        rw [if_pos (show (cut X none (some d1)).length + m.length ≤ SZ from by show _ ≤ 16777216; omega)])
    have r2 : ev (par (Φ (n + 1))) (.slc .str (.var 1) (.bin .add (.var 2) (.call 8 (.cons (.var 0) (.cons (.int 3) (.nil))))) (.nop)) (vis [.frz (.loc 0), .frz (.str X), .frz (.int d1), .frz (.str m)]) [t3] = some (.str (cut X (some (d1 + d4)) none), [t4]) :=
      e_slc (x := .str X) (l := .int (d1 + d4)) (h := .non) (by rfl) (e_bin (x := .int d1) (y := .int d4) (by rfl) (e4 _ (by rfl) _ (by rfl)) (by rfl)) (by rfl) (L := some (d1 + d4)) (by rfl) (Hh := none) (by rfl) (sl _ _)
    refine ⟨cut X none (some d1) ++ m ++ cut X (some (d1 + d4)) none, t4, run _ _ (go _ (x_seq (x_iteB (k := false) ce rfl (by rfl)) (x_ret (e_bin r1 r2 ?_) (by rfl) (by rfl)))), T4, by simp; omega⟩
    show (if (cut X none (some d1) ++ m).length + (cut X (some (d1 + d4)) none).length ≤ SZ then _ else none) = _
    rw [if_pos (show (cut X none (some d1) ++ m).length + (cut X (some (d1 + d4)) none).length ≤ SZ from by show _ ≤ 16777216; simp; omega)]
end G
set_option Elab.async false
set_option linter.all false
set_option maxRecDepth 100000
set_option maxHeartbeats 4000000
/-! The plain law of k35, part 13: the law (printed by m13gen.py). -/
namespace G
open PySem L2 DL
theorem compF_filter {step : D → Ss → Option (Option D × Ss)} {s : Ss} {p : D → Bool} {g : D → D} : ∀ {xs : List D}, (∀ x ∈ xs, step x s = some (if p x then some (g x) else none, s)) → compF step xs s = some ((xs.filter p).map g, s)
  | [], _ => rfl
  | x :: r, h => by
    have h1 := h x (List.mem_cons_self ..)
    have ih := compF_filter (step := step) (s := s) (p := p) (g := g) (xs := r) fun y hy => h y (List.mem_cons_of_mem _ hy)
    simp only [compF, h1, ih]
    cases hp : p x
    · simp [hp]
    · simp [hp]
theorem cstep_c {P : Par} {s : Ss} {tg : Tg} {own : List Nat} {c e : E} {ρ ρ' : Vw} {x z : D} {k : Bool} (hc : truC c (.bl k) = some k) (h : tgO tg x (wipeO ρ own) = some ρ') (h1 : ev P c ρ' s = some (.bl k, s)) (h2 : ev P e ρ' s = some (z, s)) : cstep P tg own c e ρ x s = some (if k then some z else none, s) := by
  unfold cstep
  rw [h]
  show bnd (ev P c ρ' s) _ = _
  rw [h1]
  show (match truC c (.bl k) with
    | some true => bnd (ev P e ρ' s) fun z s => some (some z, s)
    | some false => some (none, s)
    | none => none) = _
  rw [hc, h2]
  cases k <;> rfl
/-! the places behind newlines -/
def posts (B : List Nat) : List Int := ((List.range B.length).filter fun j => decide (B[j]? = some 10)).map fun j : Nat => (j : Int) + 1
theorem mem_posts {B : List Nat} {i : Int} : i ∈ posts B ↔ ∃ j : Nat, B[j]? = some 10 ∧ i = (j : Int) + 1 := by
  unfold posts
  constructor
  · intro h
    obtain ⟨j, hj, rfl⟩ := List.mem_map.mp h
    exact ⟨j, by simpa using (List.mem_filter.mp hj).2, rfl⟩
  · rintro ⟨j, hj, rfl⟩
    refine List.mem_map.mpr ⟨j, List.mem_filter.mpr ⟨List.mem_range.mpr ?_, by simpa using hj⟩, rfl⟩
    exact (List.getElem?_eq_some_iff.mp hj).1
theorem posts_app {Y t : List Nat} (h : 10 ∉ t) : posts (Y ++ 10 :: t) = posts Y ++ [(Y.length : Int) + 1] := by
  unfold posts
  have e : List.range (Y ++ 10 :: t).length = List.range Y.length ++ ([Y.length] ++ (List.range t.length).map fun j => Y.length + 1 + j) := by
    rw [List.length_append, List.length_cons, List.range_add, Nat.add_comm t.length 1, List.range_add]
    simp [Nat.add_assoc]
  rw [e, List.filter_append, List.filter_append]
  have e1 : (List.range Y.length).filter (fun j => decide ((Y ++ 10 :: t)[j]? = some 10)) = (List.range Y.length).filter fun j => decide (Y[j]? = some 10) := List.filter_congr fun j hj => by
    rw [List.getElem?_append_left (List.mem_range.mp hj)]
  have e2 : [Y.length].filter (fun j => decide ((Y ++ 10 :: t)[j]? = some 10)) = [Y.length] := by simp
  have e3 : ((List.range t.length).map fun j => Y.length + 1 + j).filter (fun j => decide ((Y ++ 10 :: t)[j]? = some 10)) = [] := by
    rw [List.filter_eq_nil_iff]
    intro j hj
    obtain ⟨k, hk, rfl⟩ := List.mem_map.mp hj
    have e : (Y ++ 10 :: t)[Y.length + 1 + k]? = t[k]? := by
      rw [List.getElem?_append_right (by omega)]
      have : Y.length + 1 + k - Y.length = k + 1 := by omega
      rw [this]; rfl
    rw [e]
    simp
    intro z
    exact h (List.mem_of_getElem? z)
  rw [e1, e2, e3]
  simp
theorem posts_free {t : List Nat} (h : 10 ∉ t) : posts t = [] := by
  unfold posts
  rw [List.filter_eq_nil_iff.mpr]
  · rfl
  · intro j hj
    simp
    intro z
    exact h (List.mem_of_getElem? z)
theorem flat_end {ls : List (List Nat)} (h : ls ≠ []) : ∃ Y, flat ls = Y ++ [10] := by
  induction ls with
  | nil => exact absurd rfl h
  | cons l r ih =>
    by_cases hr : r = []
    · subst hr; exact ⟨l, by simp [flat]⟩
    · obtain ⟨Y, e⟩ := ih hr
      exact ⟨l ++ 10 :: Y, by rw [flat_cons, e]; simp⟩
theorem last_start {ls : List (List Nat)} {t : List Nat} (h : 10 ∉ t) : at? ((0 :: posts (flat ls ++ t)).map D.int) (-1) = some (.int ((flat ls).length : Nat)) := by
  have key : ∀ xs : List D, ∀ x, at? (xs ++ [x]) (-1) = some x := fun xs x => by
    unfold at?
    rw [if_neg (by omega), if_pos (by simp; omega)]
    have : ((-1 : Int) + ((xs ++ [x]).length : Nat)).toNat = xs.length := by simp; omega
    rw [this, List.getElem?_append_right (Nat.le_refl _)]
    simp
  by_cases hl : ls = []
  · subst hl
    have : posts (flat [] ++ t) = [] := posts_free h
    rw [this]
    exact key [] _
  · obtain ⟨Y, e⟩ := flat_end hl
    have e2 : posts (flat ls ++ t) = posts Y ++ [(Y.length : Int) + 1] := by
      rw [e, List.append_assoc]
      exact posts_app h
    rw [e2, e]
    show at? (D.int 0 :: (posts Y ++ [(Y.length : Int) + 1]).map D.int) (-1) = _
    rw [List.map_append]
    exact (key (D.int 0 :: (posts Y).map D.int) (.int ((Y.length : Int) + 1))).trans (by simp)
theorem ints_map : ∀ is : List Int, ints? (is.map D.int) = some is
  | [] => rfl
  | i :: r => by
    show (ints? (r.map D.int)).map (i :: ·) = _
    rw [ints_map r]; rfl
theorem starts_ev {F : Nat → Fn1} {B : List Nat} (hB : B.length ≤ 6000) {ρ : Vw} {s : Ss} (h5 : ρ[5]? = some (some (.str B))) (h12 : 12 < ρ.length) : ev (par F) (.bin .add (.lst (.cons (.int 0) (.nil))) (.comp .rng1 (.cons (.bi .len (.var 5)) (.nil)) (.nm 12) [12] (.cmp .eq (.idx (.var 5) (.var 12)) (.str [10])) (.bin .add (.var 12) (.int 1)))) ρ s = some (.lst ((0 :: posts B).map D.int), s) := by
  have hS : B.length ≤ SZ := by show B.length ≤ 16777216; omega
  have key := compF_filter (step := cstep (par F) (.nm 12) [12] (.cmp .eq (.idx (.var 5) (.var 12)) (.str [10])) (.bin .add (.var 12) (.int 1)) ρ) (s := s) (p := fun x => match x with | .int i => decide (B[i.toNat]? = some 10) | _ => false) (g := fun x => match x with | .int i => .int (i + 1) | _ => .non) (xs := (List.range B.length).map fun j : Nat => .int (j : Int)) (by
    intro x hx
    obtain ⟨j, hj, rfl⟩ := List.mem_map.mp hx
    have hlt := List.mem_range.mp hj
    have h5' : ((ρ.set 12 none).set 12 (some (.int (j : Int))))[5]? = some (some (.str B)) := by
      rw [List.getElem?_set_ne (by omega), List.getElem?_set_ne (by omega)]; exact h5
    have h12' : ((ρ.set 12 none).set 12 (some (.int (j : Int))))[12]? = some (some (.int (j : Int))) := by simp [h12]
    refine cstep_c (k := decide (B[(j : Int).toNat]? = some 10)) (by rfl) (ρ' := (ρ.set 12 none).set 12 (some (.int (j : Int)))) (by simp [tgO, wipeO, h12]) (e_cmp (x := .str [B[j]]) (y := .str [10]) (e_idx (x := .str B) (y := .int (j : Int)) (e_var h5') (e_var h12') ?_) (by rfl) ?_) (e_bin (x := .int (j : Int)) (y := .int 1) (e_var h12') (by rfl) (by rfl))
    · show (if B.length ≤ SZ then (at? B (j : Int)).map fun c => D.str [c] else none) = _
      rw [if_pos hS, at_nat rfl hlt]; rfl
    · show some (decide ([B[j]] = [10])) = _
      rw [Int.toNat_natCast, List.getElem?_eq_getElem hlt]
      simp)
  have el : ev (par F) (.cons (.bi .len (.var 5)) (.nil)) ρ s = some (.tup [.int (B.length : Nat)], s) := e_cons1 (e_bi (x := .str B) (e_var h5) (by show (if B.length ≤ SZ then _ else none) = _; rw [if_pos hS]))
  have ec := ev_comp (P := par F) (k := .rng1) el (it_rng1 (by omega)) (show ((List.range B.length).map fun j : Nat => D.int (j : Int)).length ≤ SZ by simpa using hS) (by simp [tgIn]) key
  have eq : (((List.range B.length).map fun j : Nat => D.int (j : Int)).filter (fun x => match x with | .int i => decide (B[i.toNat]? = some 10) | _ => false)).map (fun x => match x with | .int i => D.int (i + 1) | _ => .non) = (posts B).map D.int := by
    unfold posts
    rw [List.filter_map, List.map_map, List.map_map]
    rfl
  rw [eq] at ec
  refine e_bin (x := .lst [.int 0]) (y := .lst ((posts B).map D.int)) (by rfl) ec ?_
  have hp : (posts B).length ≤ B.length := by
    unfold posts
    rw [List.length_map]
    exact Nat.le_trans (List.length_filter_le _ _) (by simp)
  show (if [D.int 0].length + ((posts B).map D.int).length ≤ SZ then _ else none) = _
  rw [if_pos (show [D.int 0].length + ((posts B).map D.int).length ≤ SZ from by show _ ≤ 16777216; simp; omega)]
  rfl
def R16 (sc : D) (ls : List (List Nat)) (x2 x5 x6 x7 x8 x9 x10 x11 x12 : DL.Slot) : DL.Env := [.frz sc, .frz (.loc 0), x2, .frz (.tup (ls.map rLine)), .frz (.str (flat ls)), x5, x6, x7, x8, x9, x10, x11, x12]
def c16 : DL.S := .seq (.asg 5 .pk (.call 14 (.cons (.var 1) (.cons (.var 4) (.nil))))) (.seq (.unp [6, 7] .pk (.call 15 (.cons (.var 5) (.nil)))) (.seq (.ite (.cmp .eq (.var 6) (.str [99, 111, 100, 101])) (.seq (.ite (.not_ (.call 11 (.cons (.me .join (.str []) (.cons (.comp .tup (.var 7) (.nm 11) [11] (.nop) (.call 13 (.cons (.var 11) (.nil)))) (.nil))) (.cons (.var 5) (.nil))))) (.ret .pk (.bl false)) (.skip)) (.cont)) (.skip)) (.seq (.asg 8 .st (.bin .add (.lst (.cons (.int 0) (.nil))) (.comp .rng1 (.cons (.bi .len (.var 5)) (.nil)) (.nm 12) [12] (.cmp .eq (.idx (.var 5) (.var 12)) (.str [10])) (.bin .add (.var 12) (.int 1))))) (.seq (.ite (.and_ (.cmp .ne (.var 7) (.bi .len (.var 5))) (.cmp .notin (.var 7) (.var 8))) (.ret .pk (.bl false)) (.skip)) (.seq (.ite (.and_ (.cmp .eq (.var 7) (.bi .len (.var 5))) (.cmp .eq (.slc .str (.var 5) (.int (-1)) (.nop)) (.str [10]))) (.ret .pk (.bl false)) (.skip)) (.seq (.asg 9 .pk (.ite (.cmp .isin (.var 7) (.var 8)) (.var 7) (.idx (.var 8) (.int (-1))))) (.seq (.ite (.cmp .ne (.idx (.call 15 (.cons (.slc .str (.var 5) (.nop) (.var 9)) (.nil))) (.int 0)) (.str [99, 111, 100, 101])) (.ret .pk (.bl false)) (.skip)) (.ite (.and_ (.cmp .isin (.var 7) (.var 8)) (.cmp .lt (.var 7) (.bi .len (.var 5)))) (.seq (.asg 10 .pk (.bin .add (.idx (.me .split (.slc .str (.var 5) (.var 7) (.nop)) (.cons (.str [10]) (.nil))) (.int 0)) (.str [10]))) (.ite (.cmp .isin (.var 10) (.comp .tup (.var 3) (.nm 11) [11] (.nop) (.call 13 (.cons (.var 11) (.nil))))) (.ret .pk (.bl false)) (.skip))) (.skip)))))))))
def tl16 : DL.S := .seq (.asg 8 .st (.bin .add (.lst (.cons (.int 0) (.nil))) (.comp .rng1 (.cons (.bi .len (.var 5)) (.nil)) (.nm 12) [12] (.cmp .eq (.idx (.var 5) (.var 12)) (.str [10])) (.bin .add (.var 12) (.int 1))))) (.seq (.ite (.and_ (.cmp .ne (.var 7) (.bi .len (.var 5))) (.cmp .notin (.var 7) (.var 8))) (.ret .pk (.bl false)) (.skip)) (.seq (.ite (.and_ (.cmp .eq (.var 7) (.bi .len (.var 5))) (.cmp .eq (.slc .str (.var 5) (.int (-1)) (.nop)) (.str [10]))) (.ret .pk (.bl false)) (.skip)) (.seq (.asg 9 .pk (.ite (.cmp .isin (.var 7) (.var 8)) (.var 7) (.idx (.var 8) (.int (-1))))) (.seq (.ite (.cmp .ne (.idx (.call 15 (.cons (.slc .str (.var 5) (.nop) (.var 9)) (.nil))) (.int 0)) (.str [99, 111, 100, 101])) (.ret .pk (.bl false)) (.skip)) (.ite (.and_ (.cmp .isin (.var 7) (.var 8)) (.cmp .lt (.var 7) (.bi .len (.var 5)))) (.seq (.asg 10 .pk (.bin .add (.idx (.me .split (.slc .str (.var 5) (.var 7) (.nop)) (.cons (.str [10]) (.nil))) (.int 0)) (.str [10]))) (.ite (.cmp .isin (.var 10) (.comp .tup (.var 3) (.nm 11) [11] (.nop) (.call 13 (.cons (.var 11) (.nil))))) (.ret .pk (.bl false)) (.skip))) (.skip))))))
theorem x_unp {P : Par} {ρ ρ' : DL.Env} {s s' : Ss} {e : E} {is : List Nat} {xs : List D} (h : ev P e (vis ρ) s = some (.tup xs, s')) (hp : pur (.tup xs) = true) (hs : s'.length = s.length) (hset : setsS ρ is xs = some ρ') : DL.exec P (.unp is .pk e) ρ s = some (.nx ρ' s') := by
  simp only [DL.exec, k_pk h hp hs, Option.bind_some, hset, Option.map_some]
theorem sl_hi {F : Nat → Fn1} {B : List Nat} (hB : B.length ≤ 6000) {ρ : Vw} {s : Ss} {p : Nat} {e : E} (he : partE e (.int (p : Nat)) = some (some ((p : Nat) : Int))) (h5 : ρ[5]? = some (some (.str B))) (hp : p ≤ B.length) (h : ev (par F) e ρ s = some (.int (p : Nat), s)) : ev (par F) (.slc .str (.var 5) (.nop) e) ρ s = some (.str (B.take p), s) := by
  refine e_slc (x := .str B) (l := .non) (h := .int (p : Nat)) (e_var h5) (by rfl) h (L := none) (by rfl) (Hh := some ((p : Nat) : Int)) he ?_
  show (if B.length ≤ SZ then some (D.str (cut B none (some ((p : Nat) : Int)))) else none) = _
  rw [if_pos (show B.length ≤ SZ from by show _ ≤ 16777216; omega)]
  unfold cut
  rw [six_some, Nat.min_eq_left hp]
  rfl
theorem sl_lo {F : Nat → Fn1} {B : List Nat} (hB : B.length ≤ 6000) {ρ : Vw} {s : Ss} {p : Nat} {e : E} (he : partE e (.int (p : Nat)) = some (some ((p : Nat) : Int))) (h5 : ρ[5]? = some (some (.str B))) (h : ev (par F) e ρ s = some (.int (p : Nat), s)) : ev (par F) (.slc .str (.var 5) e (.nop)) ρ s = some (.str (B.drop p), s) := by
  refine e_slc (x := .str B) (l := .int (p : Nat)) (h := .non) (e_var h5) h (by rfl) (L := some ((p : Nat) : Int)) he (Hh := none) (by rfl) ?_
  show (if B.length ≤ SZ then some (D.str (cut B (some ((p : Nat) : Int)) none)) else none) = _
  rw [if_pos (show B.length ≤ SZ from by show _ ≤ 16777216; omega), cut_drop rfl]
end G
set_option Elab.async false
set_option linter.all false
set_option maxRecDepth 100000
set_option maxHeartbeats 4000000
/-! The plain law of k35, part 14: the law. -/
namespace G
open PySem L2 DL
theorem tail16 {n : Nat} {ls : List (List Nat)} {B : List Nat} {p : Nat} {sc : D} {x2 x6 x8 x9 x10 x11 x12 : DL.Slot} {s : Ss} (ho : OKL ls) (hl : (flat ls).length + 2 ≤ SZ) (hB : B.length ≤ 6000) (hr : rCode B = .inr p) :
    ∃ y8 y9 y10, exec (par (Φ (n + 6))) tl16 (R16 sc ls x2 (.frz (.str B)) x6 (.frz (.int (p : Nat))) x8 x9 x10 x11 x12) s = some (.nx (R16 sc ls x2 (.frz (.str B)) x6 (.frz (.int (p : Nat))) y8 y9 y10 x11 x12) s) := by
  have hS : B.length ≤ SZ := by show B.length ≤ 16777216; omega
  obtain ⟨ls', tail, ho', hBt, hcase⟩ := rC_inr 1000000000 B 0 p (by omega) hr
  have hlen : B.length = (flat ls').length + tail.length := by rw [hBt]; simp
  have htake : B.take (flat ls').length = flat ls' := by rw [hBt]; simp
  have hdrop : B.drop (flat ls').length = tail := by rw [hBt]; simp
  -- what the first statements compute
  have a8 := x_st (P := par (Φ (n + 6))) (i := 8) (ρ := R16 sc ls x2 (.frz (.str B)) x6 (.frz (.int (p : Nat))) x8 x9 x10 x11 x12) (starts_ev (F := Φ (n + 6)) hB (s := s) (ρ := hid (R16 sc ls x2 (.frz (.str B)) x6 (.frz (.int (p : Nat))) x8 x9 x10 x11 x12)) (by rfl) (by show 12 < 13; decide)) rfl (by show 8 < 13; decide)
  have a8 : exec (par (Φ (n + 6))) _ _ s = some (.nx (R16 sc ls x2 (.frz (.str B)) x6 (.frz (.int (p : Nat))) (.frz (.lst ((0 :: posts B).map D.int))) x9 x10 x11 x12) s) := a8
  have elen : ∀ ρ : Vw, ρ[5]? = some (some (.str B)) → ev (par (Φ (n + 6))) (.bi .len (.var 5)) ρ s = some (.int (B.length : Nat), s) := fun ρ h => e_bi (x := .str B) (e_var h) (by
    show (if B.length ≤ SZ then _ else none) = _
    rw [if_pos hS])
  have dn : din (.int (p : Nat)) (.lst ((0 :: posts B).map D.int)) = some (decide (((p : Nat) : Int) ∈ (0 :: posts B))) := by
    show (ints? ((0 :: posts B).map D.int)).map _ = _
    rw [ints_map]; rfl
  have e_in : ∀ ρ : Vw, ρ[7]? = some (some (.int (p : Nat))) → ρ[8]? = some (some (.lst ((0 :: posts B).map D.int))) → ev (par (Φ (n + 6))) (.cmp .isin (.var 7) (.var 8)) ρ s = some (.bl (decide (((p : Nat) : Int) ∈ (0 :: posts B))), s) := fun ρ h h2 => e_cmp (e_var h) (e_var h2) dn
  have e_nin : ∀ ρ : Vw, ρ[7]? = some (some (.int (p : Nat))) → ρ[8]? = some (some (.lst ((0 :: posts B).map D.int))) → ev (par (Φ (n + 6))) (.cmp .notin (.var 7) (.var 8)) ρ s = some (.bl (!decide (((p : Nat) : Int) ∈ (0 :: posts B))), s) := fun ρ h h2 => e_cmp (e_var h) (e_var h2) (by
    show (din (.int (p : Nat)) (.lst ((0 :: posts B).map D.int))).map _ = _
    rw [dn]; rfl)
  have e_ne : ∀ ρ : Vw, ρ[7]? = some (some (.int (p : Nat))) → ρ[5]? = some (some (.str B)) → ev (par (Φ (n + 6))) (.cmp .ne (.var 7) (.bi .len (.var 5))) ρ s = some (.bl (!decide (((p : Nat) : Int) = ((B.length : Nat) : Int))), s) := fun ρ h h2 => e_cmp (e_var h) (elen ρ h2) (by rfl)
  have e_eq : ∀ ρ : Vw, ρ[7]? = some (some (.int (p : Nat))) → ρ[5]? = some (some (.str B)) → ev (par (Φ (n + 6))) (.cmp .eq (.var 7) (.bi .len (.var 5))) ρ s = some (.bl (decide (((p : Nat) : Int) = ((B.length : Nat) : Int))), s) := fun ρ h h2 => e_cmp (e_var h) (elen ρ h2) (by rfl)
  have e_lt : ∀ ρ : Vw, ρ[7]? = some (some (.int (p : Nat))) → ρ[5]? = some (some (.str B)) → ev (par (Φ (n + 6))) (.cmp .lt (.var 7) (.bi .len (.var 5))) ρ s = some (.bl (decide (((p : Nat) : Int) < ((B.length : Nat) : Int))), s) := fun ρ h h2 => e_cmp (e_var h) (elen ρ h2) (by rfl)
  -- the beginning is read as code
  have e_rd : ∀ ρ : Vw, ρ[5]? = some (some (.str B)) → ρ[9]? = some (some (.int ((flat ls').length : Nat))) → ev (par (Φ (n + 6))) (.cmp .ne (.idx (.call 15 (.cons (.slc .str (.var 5) (.nop) (.var 9)) (.nil))) (.int 0)) (.str [99, 111, 100, 101])) ρ s = some (.bl false, s) := fun ρ h h2 => by
    have es := sl_hi (F := Φ (n + 6)) hB (e := .var 9) (p := (flat ls').length) (by rfl) h (by omega) (e_var (s := s) h2)
    rw [htake] at es
    have er := e_read (n := n + 1) (T := flat ls') (s := s) (by show (flat ls').length + 2 ≤ 16777216; omega)
    have hc : rCode (flat ls') = .inl (ls'.map rLine) := rC_flat ls' _ _ ho' (by omega)
    rw [hc] at er
    exact e_cmp (x := .str [99, 111, 100, 101]) (y := .str [99, 111, 100, 101]) (e_idx (x := .tup [.str [99, 111, 100, 101], .tup (ls'.map rLine)]) (y := .int 0) (e_call1 es er) (by rfl) (by rfl)) (by rfl) (by rfl)
  refine ⟨.frz (.lst ((0 :: posts B).map D.int)), .frz (.int ((flat ls').length : Nat)), ?_⟩
  rcases hcase with ⟨hne, h10, hp⟩ | ⟨line, r, ht, h10, hno, hp⟩
  · -- the end has no newline
    have hp : p = B.length := by omega
    have hk2 : ∀ m, (flat ls').length ≤ m → B[m]? = some 10 → False := fun m hm h => by
      rw [hBt, List.getElem?_append_right hm] at h
      exact h10 (List.mem_of_getElem? h)
    have htl : 0 < tail.length := List.length_pos_iff.mpr hne
    have hnm : ((p : Nat) : Int) ∉ (0 :: posts B) := by
      intro hm
      rcases List.mem_cons.mp hm with h | h
      · omega
      · obtain ⟨j, hj, e⟩ := mem_posts.mp h
        exact hk2 j (by omega) hj
    refine ⟨x10, x_seq a8 ?_⟩
    have c1 : ev (par (Φ (n + 6))) (.and_ (.cmp .ne (.var 7) (.bi .len (.var 5))) (.cmp .notin (.var 7) (.var 8))) (vis (R16 sc ls x2 (.frz (.str B)) x6 (.frz (.int (p : Nat))) (.frz (.lst ((0 :: posts B).map D.int))) x9 x10 x11 x12)) s = some (.bl false, s) :=
      e_and (k := false) ((e_ne _ (by rfl) (by rfl)).trans (by rw [decide_eq_true (by omega)])) (by rfl) (by rfl)
    refine x_seq (x_iteB (k := false) c1 rfl (by rfl)) ?_
    have c2 : ev (par (Φ (n + 6))) (.and_ (.cmp .eq (.var 7) (.bi .len (.var 5))) (.cmp .eq (.slc .str (.var 5) (.int (-1)) (.nop)) (.str [10]))) (vis (R16 sc ls x2 (.frz (.str B)) x6 (.frz (.int (p : Nat))) (.frz (.lst ((0 :: posts B).map D.int))) x9 x10 x11 x12)) s = some (.bl false, s) := by
      refine e_and (k := true) ((e_eq _ (by rfl) (by rfl)).trans (by rw [decide_eq_true (by omega)])) (by rfl) ?_
      have es : ev (par (Φ (n + 6))) (.slc .str (.var 5) (.int (-1)) (.nop)) (vis (R16 sc ls x2 (.frz (.str B)) x6 (.frz (.int (p : Nat))) (.frz (.lst ((0 :: posts B).map D.int))) x9 x10 x11 x12)) s = some (.str (cut B (some (-1)) none), s) := by
        refine e_slc (x := .str B) (l := .int (-1)) (h := .non) (by rfl) (by rfl) (by rfl) (L := some (-1)) (by rfl) (Hh := none) (by rfl) ?_
        show (if B.length ≤ SZ then some (D.str (cut B (some (-1)) none)) else none) = _
        rw [if_pos hS]
      refine e_cmp (x := .str (cut B (some (-1)) none)) (y := .str [10]) (k := false) es (by rfl) ?_
      show some (decide (cut B (some (-1)) none = [10])) = _
      rw [decide_eq_false]
      intro h
      have hm : 10 ∈ B.drop (B.length - 1) := by
        have h6 : six B.length 0 (some (-1)) = B.length - 1 := by
          show (if (-1 : Int) < 0 then ((-1 : Int) + (B.length : Int)).toNat else min (-1 : Int).toNat B.length) = _
          rw [if_pos (by omega)]; omega
        have : 10 ∈ cut B (some (-1)) none := by rw [h]; simp
        unfold cut at this
        rw [h6] at this
        exact List.mem_of_mem_take this
      obtain ⟨k, hk⟩ := List.mem_iff_getElem?.mp hm
      rw [List.getElem?_drop] at hk
      exact hk2 _ (by omega) hk
    refine x_seq (x_iteB (k := false) c2 rfl (by rfl)) ?_
    have c3 : ev (par (Φ (n + 6))) (.ite (.cmp .isin (.var 7) (.var 8)) (.var 7) (.idx (.var 8) (.int (-1)))) (vis (R16 sc ls x2 (.frz (.str B)) x6 (.frz (.int (p : Nat))) (.frz (.lst ((0 :: posts B).map D.int))) x9 x10 x11 x12)) s = some (.int ((flat ls').length : Nat), s) := by
      refine e_ite (k := false) ((e_in _ (by rfl) (by rfl)).trans (by rw [decide_eq_false hnm])) (by rfl) ((if_neg Bool.false_ne_true).trans (e_idx (x := .lst ((0 :: posts B).map D.int)) (y := .int (-1)) (by rfl) (by rfl) ?_))
      have := last_start (ls := ls') h10
      rw [← hBt] at this
      exact this
    refine x_seq (x_pk c3 (by rfl) rfl (by show 9 < 13; decide)) ?_
    show exec (par (Φ (n + 6))) _ (R16 sc ls x2 (.frz (.str B)) x6 (.frz (.int (p : Nat))) (.frz (.lst ((0 :: posts B).map D.int))) (.frz (.int ((flat ls').length : Nat))) x10 x11 x12) s = _
    refine x_seq (x_iteB (k := false) (e_rd _ (by rfl) (by rfl)) rfl (by rfl)) ?_
    exact x_iteB (k := false) (e_and (k := false) ((e_in _ (by rfl) (by rfl)).trans (by rw [decide_eq_false hnm])) (by rfl) (by rfl)) rfl (by rfl)
  · -- a line that is none
    have hp : p = (flat ls').length := by omega
    have hpl : p < B.length := by rw [hlen, ht]; simp; omega
    have hm : ((p : Nat) : Int) ∈ (0 :: posts B) := by
      by_cases hls : ls' = []
      · rw [hp, hls]; simp [flat]
      · obtain ⟨Y, e⟩ := flat_end hls
        refine List.mem_cons_of_mem _ (mem_posts.mpr ⟨Y.length, ?_, by rw [hp, e]; simp⟩)
        rw [hBt, e]
        simp
    refine ⟨.frz (.str (line ++ [10])), x_seq a8 ?_⟩
    have c1 : ev (par (Φ (n + 6))) (.and_ (.cmp .ne (.var 7) (.bi .len (.var 5))) (.cmp .notin (.var 7) (.var 8))) (vis (R16 sc ls x2 (.frz (.str B)) x6 (.frz (.int (p : Nat))) (.frz (.lst ((0 :: posts B).map D.int))) x9 x10 x11 x12)) s = some (.bl false, s) :=
      e_and (k := true) ((e_ne _ (by rfl) (by rfl)).trans (by rw [decide_eq_false (by omega)])) (by rfl) ((if_pos rfl).trans ((e_nin _ (by rfl) (by rfl)).trans (by rw [decide_eq_true hm]; rfl)))
    refine x_seq (x_iteB (k := false) c1 rfl (by rfl)) ?_
    have c2 : ev (par (Φ (n + 6))) (.and_ (.cmp .eq (.var 7) (.bi .len (.var 5))) (.cmp .eq (.slc .str (.var 5) (.int (-1)) (.nop)) (.str [10]))) (vis (R16 sc ls x2 (.frz (.str B)) x6 (.frz (.int (p : Nat))) (.frz (.lst ((0 :: posts B).map D.int))) x9 x10 x11 x12)) s = some (.bl false, s) :=
      e_and (k := false) ((e_eq _ (by rfl) (by rfl)).trans (by rw [decide_eq_false (by omega)])) (by rfl) (by rfl)
    refine x_seq (x_iteB (k := false) c2 rfl (by rfl)) ?_
    have c3 : ev (par (Φ (n + 6))) (.ite (.cmp .isin (.var 7) (.var 8)) (.var 7) (.idx (.var 8) (.int (-1)))) (vis (R16 sc ls x2 (.frz (.str B)) x6 (.frz (.int (p : Nat))) (.frz (.lst ((0 :: posts B).map D.int))) x9 x10 x11 x12)) s = some (.int (p : Nat), s) :=
      e_ite (k := true) ((e_in _ (by rfl) (by rfl)).trans (by rw [decide_eq_true hm])) (by rfl) ((if_pos rfl).trans (e_var (by rfl)))
    refine x_seq (x_pk c3 (by rfl) rfl (by show 9 < 13; decide)) ?_
    rw [← hp] at e_rd htake hdrop ⊢
    show exec (par (Φ (n + 6))) _ (R16 sc ls x2 (.frz (.str B)) x6 (.frz (.int (p : Nat))) (.frz (.lst ((0 :: posts B).map D.int))) (.frz (.int (p : Nat))) x10 x11 x12) s = _
    refine x_seq (x_iteB (k := false) (e_rd _ (by rfl) (by rfl)) rfl (by rfl)) ?_
    refine x_iteB (k := true) (e_and (k := true) ((e_in _ (by rfl) (by rfl)).trans (by rw [decide_eq_true hm])) (by rfl) ((if_pos rfl).trans ((e_lt _ (by rfl) (by rfl)).trans (by rw [decide_eq_true (by omega)])))) rfl ?_
    have es : ev (par (Φ (n + 6))) (.slc .str (.var 5) (.var 7) (.nop)) (vis (R16 sc ls x2 (.frz (.str B)) x6 (.frz (.int (p : Nat))) (.frz (.lst ((0 :: posts B).map D.int))) (.frz (.int (p : Nat))) x10 x11 x12)) s = some (.str tail, s) := by
      have := sl_lo (F := Φ (n + 6)) hB (e := .var 7) (p := p) (ρ := vis (R16 sc ls x2 (.frz (.str B)) x6 (.frz (.int (p : Nat))) (.frz (.lst ((0 :: posts B).map D.int))) (.frz (.int (p : Nat))) x10 x11 x12)) (s := s) (by rfl) (by rfl) (by rfl)
      rw [hdrop] at this
      exact this
    have esp : ev (par (Φ (n + 6))) (.idx (.me .split (.slc .str (.var 5) (.var 7) (.nop)) (.cons (.str [10]) (.nil))) (.int 0)) (vis (R16 sc ls x2 (.frz (.str B)) x6 (.frz (.int (p : Nat))) (.frz (.lst ((0 :: posts B).map D.int))) (.frz (.int (p : Nat))) x10 x11 x12)) s = some (.str line, s) := by
      refine e_idx (x := .lst ((splitL 10 tail).map D.str)) (y := .int 0) (e_me (x := .str tail) (y := .tup [.str [10]]) es (by rfl) ?_) (by rfl) ?_
      · show (if tail.length + 2 ≤ SZ then _ else none) = _
        rw [if_pos (show tail.length + 2 ≤ SZ from by show _ ≤ 16777216; omega)]
      · rw [ht, splitL_cons h10]
        exact dix_str (ws := line :: splitL 10 r) (i := 0) rfl rfl
    have e10 : ev (par (Φ (n + 6))) (.bin .add (.idx (.me .split (.slc .str (.var 5) (.var 7) (.nop)) (.cons (.str [10]) (.nil))) (.int 0)) (.str [10])) (vis (R16 sc ls x2 (.frz (.str B)) x6 (.frz (.int (p : Nat))) (.frz (.lst ((0 :: posts B).map D.int))) (.frz (.int (p : Nat))) x10 x11 x12)) s = some (.str (line ++ [10]), s) :=
      e_bin (x := .str line) (y := .str [10]) esp (by rfl) (by
        show (if line.length + [10].length ≤ SZ then _ else none) = _
        have : line.length ≤ tail.length := by rw [ht]; simp
        rw [if_pos (show line.length + [10].length ≤ SZ from by show line.length + 1 ≤ 16777216; omega)])
    refine (if_pos rfl : (if true = true then _ else _) = _) ▸ x_seq (x_pk e10 (by rfl) rfl (by show 10 < 13; decide)) ?_
    have hl' : (flat ls).length + 2 ≤ 16777216 := hl
    have ecm := e_compc (F := Φ (n + 6)) (v := 3) (i := 11) (fn := 13) (ls := ls) (s := s) (ρ := vis (R16 sc ls x2 (.frz (.str B)) x6 (.frz (.int (p : Nat))) (.frz (.lst ((0 :: posts B).map D.int))) (.frz (.int (p : Nat))) (.frz (.str (line ++ [10]))) x11 x12)) (by rfl) (by show 11 < 13; decide) hl (fun l hm => (back (n := n + 5) (by have := mem_flat hm; show l.length + 2 ≤ 16777216; omega) (ho l hm).1).2.2)
    show exec (par (Φ (n + 6))) _ (R16 sc ls x2 (.frz (.str B)) x6 (.frz (.int (p : Nat))) (.frz (.lst ((0 :: posts B).map D.int))) (.frz (.int (p : Nat))) (.frz (.str (line ++ [10]))) x11 x12) s = _
    refine x_iteB (k := false) (e_cmp (x := .str (line ++ [10])) (y := .lst ((ls.map (· ++ [10])).map D.str)) (by rfl) ecm ?_) rfl (by rfl)
    refine (din_lst (strs_map (ls.map (· ++ [10])))).trans ?_
    rw [decide_eq_false]
    intro hmm
    obtain ⟨l, hlm, e⟩ := List.mem_map.mp hmm
    have : l = line := List.append_cancel_right e
    subst this
    exact (ho l hlm).1 hno
end G
set_option Elab.async false
set_option linter.all false
set_option maxRecDepth 100000
set_option maxHeartbeats 4000000
/-! The plain law of k35, part 15: the whole. -/
namespace G
open PySem L2 DL
def RR (sc : D) (ls : List (List Nat)) (ρ : DL.Env) : Prop := ∃ x2 x5 x6 x7 x8 x9 x10 x11 x12, ρ = R16 sc ls x2 x5 x6 x7 x8 x9 x10 x11 x12
theorem body16 {n : Nat} {ls : List (List Nat)} {sc : D} {ρ : DL.Env} {tp : Cell} (ho : OKL ls) (hl : (flat ls).length ≤ 2000) (T : TapeOk tp) (hρ : RR sc ls ρ) :
    ∃ ρ' tp', RR sc ls ρ' ∧ TapeOk tp' ∧ (exec (par (Φ (n + 6))) c16 ρ [tp] = some (.nx ρ' [tp']) ∨ exec (par (Φ (n + 6))) c16 ρ [tp] = some (.ct ρ' [tp'])) := by
  obtain ⟨x2, x5, x6, x7, x8, x9, x10, x11, x12, rfl⟩ := hρ
  obtain ⟨B, tp', e14, T', hB⟩ := e_bent (n := n + 4) T hl
  have a5 := x_pk (P := par (Φ (n + 6))) (i := 5) (ρ := R16 sc ls x2 x5 x6 x7 x8 x9 x10 x11 x12) (e_call (f := 14) (a := .cons (.var 1) (.cons (.var 4) (.nil))) (e_cons (x := .loc 0) (by rfl) (e_cons1 (x := .str (flat ls)) (by rfl))) e14) (by rfl) (by rfl) (by show 5 < 13; decide)
  have a5 : exec (par (Φ (n + 6))) _ _ [tp] = some (.nx (R16 sc ls x2 (.frz (.str B)) x6 x7 x8 x9 x10 x11 x12) [tp']) := a5
  have hBs : B.length + 2 ≤ SZ := by show B.length + 2 ≤ 16777216; omega
  have e15 := e_call1 (P := par (Φ (n + 6))) (f := 15) (a := .var 5) (ρ := vis (R16 sc ls x2 (.frz (.str B)) x6 x7 x8 x9 x10 x11 x12)) (s := [tp']) (x := .str B) (by rfl) (e_read (n := n + 1) hBs)
  cases hr : rCode B with
  | inl ds =>
    rw [hr] at e15
    obtain ⟨ls', h1, h2, h3⟩ := rC_inl 1000000000 B 0 ds (by omega) hr
    have hp : purs ds = true := by rw [h2]; exact purs_ls h1 (by rw [← h3]; exact hBs)
    have a6 := x_unp (P := par (Φ (n + 6))) (is := [6, 7]) (ρ := R16 sc ls x2 (.frz (.str B)) x6 x7 x8 x9 x10 x11 x12) (ρ' := R16 sc ls x2 (.frz (.str B)) (.frz (.str [99, 111, 100, 101])) (.frz (.tup ds)) x8 x9 x10 x11 x12) e15 (by show (true && (purs ds && true)) = true; rw [hp]; rfl) (by rfl) (by rfl)
    refine ⟨_, tp', ⟨x2, .frz (.str B), .frz (.str [99, 111, 100, 101]), .frz (.tup ds), x8, x9, x10, x11, x12, rfl⟩, T', Or.inr (x_seq a5 (x_seq a6 (x_seqC (x_iteB (k := true) (by rfl) rfl ?_))))⟩
    have ej := e_joinc (F := Φ (n + 6)) (v := 7) (i := 11) (fn := 13) (ls := ls') (s := [tp']) (ρ := vis (R16 sc ls x2 (.frz (.str B)) (.frz (.str [99, 111, 100, 101])) (.frz (.tup ds)) x8 x9 x10 x11 x12)) (by rw [h2]; rfl) (by show 11 < 13; decide) (by rw [← h3]; exact hBs) (fun l hm => (back (n := n + 5) (by have := mem_flat hm; rw [← h3] at this; show l.length + 2 ≤ 16777216; omega) (h1 l hm).1).2.2)
    rw [← h3] at ej
    refine x_seq (x_iteB (k := false) (e_not (k := true) (e_call (f := 11) (e_cons ej (e_cons1 (x := .str B) (by rfl))) (same_str (n := n + 5))) (by rfl)) rfl (by rfl)) (by rfl)
  | inr p =>
    rw [hr] at e15
    have a6 := x_unp (P := par (Φ (n + 6))) (is := [6, 7]) (ρ := R16 sc ls x2 (.frz (.str B)) x6 x7 x8 x9 x10 x11 x12) (ρ' := R16 sc ls x2 (.frz (.str B)) (.frz (.str [119, 114, 111, 110, 103])) (.frz (.int (p : Nat))) x8 x9 x10 x11 x12) e15 (by rfl) (by rfl) (by rfl)
    obtain ⟨y8, y9, y10, e⟩ := tail16 (n := n) (sc := sc) (x2 := x2) (x6 := .frz (.str [119, 114, 111, 110, 103])) (x8 := x8) (x9 := x9) (x10 := x10) (x11 := x11) (x12 := x12) (s := [tp']) ho (by show (flat ls).length + 2 ≤ 16777216; omega) hB hr
    exact ⟨_, tp', ⟨x2, .frz (.str B), .frz (.str [119, 114, 111, 110, 103]), .frz (.int (p : Nat)), y8, y9, y10, x11, x12, rfl⟩, T', Or.inl (x_seq a5 (x_seq a6 (x_seq (x_iteB (k := false) (by rfl) rfl (by rfl)) e)))⟩
theorem loop16 {n : Nat} {ls : List (List Nat)} {sc : D} (ho : OKL ls) (hl : (flat ls).length ≤ 2000) : ∀ (js : List D) (ρ : DL.Env) (tp : Cell), TapeOk tp → RR sc ls ρ →
    ∃ ρ' tp', RR sc ls ρ' ∧ TapeOk tp' ∧ forF (fun x ρ s => (tgS (.nm 2) x ρ).bind fun ρ' => exec (par (Φ (n + 6))) c16 ρ' s) js ρ [tp] = some (.nx ρ' [tp'])
  | [], ρ, tp, T, h => ⟨ρ, tp, h, T, rfl⟩
  | j :: js, ρ, tp, T, h => by
    obtain ⟨x2, x5, x6, x7, x8, x9, x10, x11, x12, rfl⟩ := h
    obtain ⟨ρ1, t1, h1, T1, e⟩ := body16 (n := n) (sc := sc) (ρ := R16 sc ls (.frz j) x5 x6 x7 x8 x9 x10 x11 x12) ho hl T ⟨_, _, _, _, _, _, _, _, _, rfl⟩
    obtain ⟨ρ2, t2, h2, T2, e2⟩ := loop16 (n := n) ho hl js ρ1 t1 T1 h1
    refine ⟨ρ2, t2, h2, T2, ?_⟩
    rcases e with e | e
    · exact (for_nx (s' := [t1]) (ρ' := ρ1) e).trans e2
    · exact (for_ct (s' := [t1]) (ρ' := ρ1) e).trans e2
theorem ins_loop {n : Nat} {ρ : Vw} (h1 : ρ[1]? = some (some (.loc 0))) (hi : 2 < ρ.length) : ∀ (xs : List D) (tp : Cell), TapeOk tp → ∃ ls tp', compF (cstep (par (Φ (n + 2))) (.nm 2) [2] .nop (.call 12 (.cons (.var 1) (.nil))) ρ) xs [tp] = some (ls.map rLine, [tp']) ∧ TapeOk tp' ∧ OKL ls ∧ ls.length = xs.length ∧ ∀ l ∈ ls, l.length ≤ 100
  | [], tp, T => ⟨[], tp, rfl, T, fun l h => absurd h List.not_mem_nil, rfl, fun l h => absurd h List.not_mem_nil⟩
  | x :: xs, tp, T => by
    obtain ⟨d, t1, e, T1, l, h10, hl, rfl, hne⟩ := e_ins (n := n) T
    obtain ⟨ls, t2, e2, T2, ho, hlen, hls⟩ := ins_loop (n := n) h1 hi xs t1 T1
    have st : cstep (par (Φ (n + 2))) (.nm 2) [2] .nop (.call 12 (.cons (.var 1) (.nil))) ρ x [tp] = some (some (rLine l), [t1]) := by
      refine cstep_nop (ρ' := (ρ.set 2 none).set 2 (some x)) (by simp [tgO, wipeO, hi]) (e_call1 (x := .loc 0) (e_var ?_) e)
      rw [List.getElem?_set_ne (by omega), List.getElem?_set_ne (by omega)]; exact h1
    refine ⟨l :: ls, t2, ?_, T2, fun y hy => ?_, by simp [hlen], fun y hy => ?_⟩
    · simp only [compF, st, e2]
      rfl
    · rcases List.mem_cons.mp hy with rfl | hy
      · exact ⟨hne, h10⟩
      · exact ho y hy
    · rcases List.mem_cons.mp hy with rfl | hy
      · exact hl
      · exact hls y hy
theorem flat_le : ∀ (ls : List (List Nat)), (∀ l ∈ ls, l.length ≤ 100) → (flat ls).length ≤ 101 * ls.length
  | [], _ => by simp [flat]
  | l :: ls, h => by
    have ih := flat_le ls fun x hx => h x (List.mem_cons_of_mem _ hx)
    have := h l (List.mem_cons_self ..)
    rw [flat_cons]
    simp
    omega
theorem law35 (ns : List Int) (hn : ns.length ≤ 63) : ∃ s, Φ 20 16 [.lsk (ns.map .int)] [] = some (.bl true, s) := by
  obtain ⟨t0, e7, T0⟩ := e_tape (n := 18) hn
  obtain ⟨d, t1, etk, T1, p1, q1⟩ := e_take (n := 18) (m := 12) (by omega) (by omega) T0
  obtain ⟨k, rfl⟩ := Int.eq_ofNat_of_zero_le p1
  -- the code drawn
  obtain ⟨ls, t2, ecp, T2, ho, hlen, hls⟩ := ins_loop (n := 17) (ρ := vis [.frz (.lsk (ns.map .int)), .frz (.loc 0), .nil, .nil, .nil, .nil, .nil, .nil, .nil, .nil, .nil, .nil, .nil]) (by rfl) (by show 2 < 13; decide) ((List.range k).map fun j : Nat => .int (j : Int)) t1 T1
  have hk : ls.length ≤ 11 := by rw [hlen]; simp; omega
  have hfl : (flat ls).length ≤ 2000 := by have := flat_le ls hls; omega
  have hfs : (flat ls).length + 2 ≤ SZ := by show (flat ls).length + 2 ≤ 16777216; omega
  have ecode : ev (par (Φ 19)) (.bi .tuple (.comp .rng1 (.cons (.call 8 (.cons (.var 1) (.cons (.int 12) (.nil)))) (.nil)) (.nm 2) [2] (.nop) (.call 12 (.cons (.var 1) (.nil))))) (vis [.frz (.lsk (ns.map .int)), .frz (.loc 0), .nil, .nil, .nil, .nil, .nil, .nil, .nil, .nil, .nil, .nil, .nil]) [t0] = some (.tup (ls.map rLine), [t2]) := by
    refine e_bi (ev_comp (k := .rng1) (d := .tup [.int (k : Nat)]) (e_cons1 (e_call (f := 8) (e_cons (x := .loc 0) (by rfl) (e_cons1 (x := .int 12) (by rfl))) etk)) (it_rng1 (by omega)) (show ((List.range k).map fun j : Nat => D.int (j : Int)).length ≤ 16777216 by simp; omega) (by rfl) ecp) (by rfl)
  have hpc : pur (.tup (ls.map rLine)) = true := purs_ls ho hfs
  -- the text
  have etext := e_joinc (F := Φ 19) (v := 3) (i := 11) (fn := 13) (ls := ls) (s := [t2]) (ρ := vis [.frz (.lsk (ns.map .int)), .frz (.loc 0), .nil, .frz (.tup (ls.map rLine)), .nil, .nil, .nil, .nil, .nil, .nil, .nil, .nil, .nil]) (by rfl) (by show 11 < 13; decide) hfs (fun l hm => (back (n := 18) (by have := hls l hm; show l.length + 2 ≤ 16777216; omega) (ho l hm).1).2.2)
  -- both compared
  have c1 : ev (par (Φ 19)) (.or_ (.not_ (.call 11 (.cons (.call 1 (.cons (.var 3) (.nil))) (.cons (.var 4) (.nil))))) (.not_ (.call 11 (.cons (.call 6 (.cons (.var 4) (.nil))) (.cons (.var 3) (.nil)))))) (vis (R16 (.lsk (ns.map .int)) ls .nil .nil .nil .nil .nil .nil .nil .nil .nil)) [t2] = some (.bl false, [t2]) := by
    refine e_or (k := false) (e_not (k := true) (e_call (f := 11) (e_cons (e_call1 (f := 1) (x := .tup (ls.map rLine)) (by rfl) (e_wcode (n := 17) ho hfs)) (e_cons1 (x := .str (flat ls)) (by rfl))) (same_str (n := 18))) (by rfl)) (by rfl) ?_
    exact (if_neg Bool.false_ne_true).trans (e_not (k := true) (e_call (f := 11) (e_cons (e_call1 (f := 6) (x := .str (flat ls)) (by rfl) (e_codeP (n := 15) ho hfs)) (e_cons1 (x := .tup (ls.map rLine)) (by rfl))) (same_sv (sv_code ho hfs) 9 [t2])) (by rfl))
  obtain ⟨ρ', t3, h3, T3, e3⟩ := loop16 (n := 13) (sc := .lsk (ns.map .int)) ho hfl ((List.range 3).map fun j : Nat => .int (j : Int)) (R16 (.lsk (ns.map .int)) ls .nil .nil .nil .nil .nil .nil .nil .nil .nil) t2 T2 ⟨_, _, _, _, _, _, _, _, _, rfl⟩
  refine ⟨[t3], ?_⟩
  show runF (par (Φ 19)) f16 [.lsk (ns.map .int)] [] = _
  refine run_rt rfl rfl ?_
  show exec (par (Φ 19)) b16 [.frz (.lsk (ns.map .int)), .nil, .nil, .nil, .nil, .nil, .nil, .nil, .nil, .nil, .nil, .nil, .nil] [] = _
  refine x_seq (x_asg (k_pkc (d := .loc 0) (s' := [t0]) (e_call1 (f := 7) (x := .lsk (ns.map .int)) (by rfl) e7) (by rfl) (by rfl)) (by show 1 < 13; decide)) ?_
  refine x_seq (x_pk (d := .tup (ls.map rLine)) (s' := [t2]) ecode hpc (by rfl) (by show 3 < 13; decide)) ?_
  refine x_seq (x_pk (d := .str (flat ls)) (s' := [t2]) etext (by rfl) (by rfl) (by show 4 < 13; decide)) ?_
  refine x_seq (x_iteB (k := false) c1 (by rfl) (by rfl)) ?_
  refine x_seq (x_for (k := .rng1) (d := .tup [.int 3]) (by rfl) (by rfl) (it_rng1 (n := 3) (by omega)) e3) ?_
  exact x_ret (by rfl) (by rfl) (by rfl)
end G
namespace G
open DL
theorem lawP : ∀ ns : List Int, ns.length ≤ 63 → ∃ s, Φ 20 16 [.lsk (ns.map .int)] [] = some (.bl true, s) := law35
end G

theorem PySem.Challenge.cw_talkhouse_k35_texts_of_code_holds : PySem.Challenge.rw_talkhouse_k35_texts_of_code.Holds := by
  exact G.whole G.lawP
